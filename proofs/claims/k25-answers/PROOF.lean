import PyProof.Rows.All
import Wide.All
import OpenK.AllK
import Wide.FinOn
import KE.GoesEnum
import KE.GoesMore
import HandS.ForMost
import HandS.Evl
import HandS.FStr
import HandS.StrMore
import HandS.StrSplit
import HandS.Walk
import HandS.RaiseMore
import HandS.IsInst
import HandS.Dict
import HandS.ForSpec
import HandS.Exc
import HandS.ExcField
import HandS.ExcIs
import KE.KExcIs
import KE.RegKIsAll
import KE.KExcSuper
import HandS.RaiseFrom
import HandS.SuiteRaise
import HandS.Replace
import HandS.ReplaceLit
import HandS.TryMany
import HandS.Strs
import HandS.Style
import HandS.SortInts
import HandS.TupAny
import KE.SortData
import KE.KItemsList
import KE.KDictList
import HandS.DictTup
import HandS.ListItems
import HandS.DictComp
import HandS.Flow
import HandS.SetFor
import KE.SortKeyHeap
import HandS.SortKw
import HandS.WrittenGet
import HandS.Zip
import HandS.More
import PyProof.Rows.Chain
import HandS.Deep
import HandS.SortRule
import HandS.SortOrd
import PyProof.Rows.SortKeyStr
import HandS.Property
import PyProof.P3In
import HandS.CallLocal
import HandS.List
import KE.KRevSl
import KE.DataMinMax
import HandS.ExcValue
import HandS.ExcInit
import HandS.Head0
import HandS.Head1
import HandS.Head2
import HandS.HeadEnd
import HandS.HeadHook1
import HandS.HeadHook2
import HandS.HeadHook3
import PySem.Challenge.RW_limitweave_k25_answers
set_option Elab.async false
set_option linter.all false
set_option maxRecDepth 100000
set_option maxHeartbeats 4000000
namespace PySem
namespace LwX
open PySem.W PySem.Calls PyProof.Rows PySem.HandSPX
/-! ### an own error: class C(B): def __init__(self, f): super().__init__(msg); self.f = f -/
def xA (f : Str) (p1 p2 : Pos) : Arguments := { posonlyargs := [], args := [{ arg := "self", annotation := none, pos := p1 }, { arg := f, annotation := none, pos := p2 }], vararg := none, kwonlyargs := [], kw_defaults := [], kwarg := none, defaults := [] }
def xB (msg f : Str) (j : Nat) (q1 q2 q3 q4 q5 q6 q7 q8 q9 q10 : Pos) : List Stmt :=
  [.Expr (.Call (.Attribute (.Call (.Name "super" q1) [] [] q2) "__init__" q3) [.Constant (.str msg) j q4] [] q5) q6, .Assign [.Attribute (.Name "self" q7) f q8] (.Name f q9) q10]
def xS (f : Str) : Scope := { kind := .function, names := [(PySem.Str.ofString "self", .local), (f, .local), (PySem.Str.ofString "__class__", .free), (PySem.Str.ofString "super", .globalImplicit)], isGenerator := false, isCoroutine := false, more := [] }
/-- what is told of the names alone -/
structure FieldOk (f : Str) : Prop where
  kf : (xS f).names.lookup f = some .local
  ks : (xS f).names.lookup ("super" : Str) = some .globalImplicit
  kc : (xS f).names.lookup ("__class__" : Str) = some .free
  nf : (("self" : Str) == f) = false
  nd : (f == ("__debug__" : Str)) = false
  bd : ∀ (qual : Str) (p1 p2 : Pos) (body : List Stmt) (doc pm : Value) (an : Option Addr) (cdv ct : Value) (cc : Addr) (a v : Value), bindArgs (ksFn "__init__" qual (xA f p1 p2) body (xS f) .none .none doc pm an cdv ct cc) ⟨[a, v], []⟩ = pure [(("self" : Str), a), (f, v)]
/-- what the written part says of the class nm, at C, and of its __init__, at fI -/
structure ErrTxt (file : Str) (K : Frag) (mg : Str → Option Value) (nm f : Str) (C fI : Addr) : Prop where
  fo : FieldOk f
  gC : mg nm = some (.ref C)
  cls : ∃ q N bs bm sn sub ab col dd k0 k1 k2 k3 k5, K.lookup C = some (excClassObj nm q C N bs bm true sn sub ab col dd k0 k1 k2 k3 k5 "ValueError.__new__") ∧ refsVE bm = true
  sa : findIn K (.ref C) "__setattr__" = some (some (.builtin "object.__setattr__"))
  ga : findIn K (.ref C) "__getattribute__" = some (some (.builtin "BaseException.__getattribute__"))
  gg : findIn K (.ref C) "__getattr__" = some none
  noN : findIn K (.ref C) f = some none
  iC : findIn K (.ref C) "__init__" = some (some (.ref fI))
  tC : typeIn K (.ref fI) = some (.type "function")
  kC : keepIn K (.ref C) = true
  exC : subIn K (.ref C) (.type "BaseException") = some true
  veC : subIn K (.ref C) (.type "ValueError") = some true
  selfC : mroIn K C (.ref C) = some true
  tyC : typeIn K (.ref C) = some (.type "type")
  hdC : hasDictIn K C = true
  te : exmOne K (.ref C) (.ref C) = some true
  su : ks_superIn K C C "__init__" = some (some (.builtin "ValueError.__init__"))
  opq : nsIn K cStatics "thirdparty.any" = some none
  gS : mg "super" = none
  fn : ∃ (oc : Value) (od : Option Addr) (qual msg : Str) (j : Nat) (doc pm : Value) (an : Option Addr) (cda cc : Addr) (ct : Value) (osl : Array (Option Value)) (p1 p2 q1 q2 q3 q4 q5 q6 q7 q8 q9 q10 : Pos),
    K.lookup fI = some ⟨oc, od, .func (ksFn "__init__" qual (xA f p1 p2) (xB msg f j q1 q2 q3 q4 q5 q6 q7 q8 q9 q10) (xS f) .none .none doc pm an (.ref cda) ct cc), osl⟩ ∧ codeIn K (.ref cda) qual = true ∧
    (∃ (ccl : Value) (cdd : Option Addr) (vs : Array Value) (ccs : Array (Option Value)) (tf : Tok), K.lookup cda = some ⟨ccl, cdd, .fields vs, ccs⟩ ∧ vs[2]? = some (.str file tf)) ∧
    (∃ (cl : Value) (cld : Option Addr) (csl : Array (Option Value)), K.lookup cc = some ⟨cl, cld, .cell (some (.ref C)), csl⟩) ∧ (q3.endLine == q5.line) = true
theorem one_size (v : Value) : [v].length ≤ sizeLine := by
  rw [sizeLine_eq]
  exact (by decide : 1 ≤ 16777216)
/-- what __init__ leaves of a fresh exception at x -/
structure InitEnd (h h' : Heap) (f : Str) (x C dx t1 : Addr) (v : Value) : Prop where
  keep : ∀ b o, b ≠ x → h.get? b = some o → h'.get? b = some o
  obj : h'.get? x = some { cls := .ref C, dict := some dx, data := .fields #[.ref t1, .none, .none, .none, .bool false, .none] }
  dbig : h.objs.size ≤ dx
  dne : dx ≠ x
  ns : h'.Ns1 dx (fun y => if y = f then some v else none)
/-- a made error -/
structure OwnMade (h h' : Heap) (f : Str) (e C d : Addr) (v : Value) : Prop where
  keep : ∀ b o, h.get? b = some o → h'.get? b = some o
  new : h.objs.size ≤ e
  obj : ∃ t1 : Addr, h'.get? e = some { cls := .ref C, dict := some d, data := .fields #[.ref t1, .none, .none, .none, .bool false, .none] }
  dbig : h.objs.size ≤ d
  dne : d ≠ e
  ns : h'.Ns1 d (fun y => if y = f then some v else none)
section
variable {prog : Program} {w : World} {A : Around} {E : Value → Shared → Prop} {R : Result → Shared → Prop} {s : Shared} {K : Frag} {mg : Str → Option Value} {nm f : Str} {C fI : Addr}
/-- super().__init__(..) at e, an exception with the args at t0: the args are laid anew -/
theorem xi_super {h : Heap} {g : Array GenState} {d : Drawn} {t : Nat} {os : OsState} {e t0 u : Addr} {rest : List Value} {nm2 q : Str} {N : Addr} {bs bm : List Value} {hdct : Bool} {sn : List Str} {sub : List Value} {ab : Bool} {col : Option Bool} {dd : Option Addr} {k0 k1 k2 k3 k5 : Option Value} {Q : Value → Shared → Prop}
    (hC : h.get? C = some (excClassObj nm2 q C N bs bm hdct sn sub ab col dd k0 k1 k2 k3 k5 "ValueError.__new__")) (he : h.get? e = some (excO C t0)) (hu : h.get? u = some (kxs_mw "ValueError.__init__" e)) (hz : rest.length ≤ sizeLine)
    (hq : ∀ h' t1, (∀ b o, b ≠ e → h.get? b = some o → h'.get? b = some o) → h'.get? e = some (excO C t1) → Q .none ⟨h', g, d, t, os⟩) :
    wpAny (model prog w) A (call (.ref u) rest) Q E ⟨h, g, d, t, os⟩ := by
  refine wpAny_call (codeAny_of_tree ?_)
  show wpAny _ A.in1 (callAny (.ref u) ⟨rest, []⟩) _ _ _
  simp only [callAny]
  refine wpAny_bind (wpAny_load hu ?_)
  simp only [kxs_mw, show (Value.type "method-wrapper" == Value.type "method" || Value.type "method-wrapper" == Value.type "builtin_function_or_method" || Value.type "method-wrapper" == Value.type "method-wrapper") = true by decide, if_true]
  refine KFB.if_so (by decide) ?_
  refine wpAny_bind (check_bound_init F.excBase_ValueError.toExcCallFacts hC he rfl ?_)
  refine wpAny_bind (wpAny_pure (wpAny_pure ?_))
  refine ⟨plainId_quiet F.excBase_ValueError.init.plain _, codeAny_builtin F.excBase_ValueError.initEntry ?_⟩
  exact exc_init_tree (cls := .ref C) (t0 := t0) (dv := none) (c2 := .none) (c3 := .none) (b4 := .bool false) he hz fun h' k e' _ => hq h' _ k e'
theorem xi_init {mb : Str → Option Value} (T : ErrTxt prog.main.file K mg nm f C fI) {x t0 : Addr} {v : Value} (X : K.In s.heap) (hlim : s.heap.NoLimit) (hgl : s.heap.Ns mainGlobals mg) (hbl : s.heap.Ns builtinsNs mb) (hbs : mb "super" = some (.type "super"))
    (htop : (prog.main.scope.names.lookup ("super" : Str)).isSome = false)
    (hx : s.heap.get? x = some (excO C t0)) (hnx : K.lookup x = none) (hroom : A.depth < recursionLimit)
    (hq : ∀ h' tk dx t1, InitEnd s.heap h' f x C dx t1 v → R (.ok (.ret .none)) { s with heap := h', toks := tk }) :
    codeAny (model prog w) A (.call (.ref fI) ⟨[.ref x, v], []⟩) R s := by
  obtain ⟨oc, od, qual, msg, j, doc, pm, an, cda, cc, ct, osl, p1, p2, q1, q2, q3, q4, q5, q6, q7, q8, q9, q10, ho, hcd, ⟨ccl, cdd, vs, ccs, tf, hcode, hvs⟩, ⟨cl, cld, csl, hcell⟩, hline⟩ := T.fn
  obtain ⟨nm2, q, N, bs, bm, sn, sub, ab, col, dd, k0, k1, k2, k3, k5, hC, hbm⟩ : ∃ nm2 q N bs bm sn sub ab col dd k0 k1 k2 k3 k5, K.lookup C = some (excClassObj nm2 q C N bs bm true sn sub ab col dd k0 k1 k2 k3 k5 "ValueError.__new__") ∧ refsVE bm = true := ⟨nm, T.cls⟩
  have hcl : clsIn K C = some { name := nm2, bases := bs, mro := .ref C :: bm, ns := N, qualname := q, hasDict := true, slotNames := sn, subclasses := sub, abstract := ab, collection := col, hasDel := false } := by unfold clsIn; rw [hC] <;> rfl
  refine ks_codeAny_call_defAt (fd := ksFn "__init__" qual (xA f p1 p2) (xB msg f j q1 q2 q3 q4 q5 q6 q7 q8 q9 q10) (xS f) .none .none doc pm an (.ref cda) ct cc) (body := xB msg f j q1 q2 q3 q4 q5 q6 q7 q8 q9 q10) (binds := [("self", .ref x), (f, v)]) hroom (X _ _ ho) rfl hlim (codeRec_of X hcd) rfl
    (BindsTo.of_eq (T.fo.bd _ _ _ _ _ _ _ _ _ _ _ _)) ?hcl ?hloc (fun h₁ hns k₁ => ?_)
  case hcl =>
    intro y hy
    simp only [xS, List.mem_cons, List.not_mem_nil, or_false] at hy
    rcases hy with rfl | rfl | rfl | rfl <;> (intro z; cases z)
  case hloc =>
    intro y hy
    simp only [List.mem_cons, List.not_mem_nil, or_false] at hy
    rcases hy with rfl | rfl
    · rfl
    · exact T.fo.kf
  have hxL : s.heap.objs.size ≠ x := Nat.ne_of_gt (Heap.lt_size hx)
  have X₁ : K.In h₁ := X.keeps k₁
  have hx₁ := k₁ _ _ hx
  have hC₁ := X₁ _ _ hC
  have hself : List.lookup ("self" : Str) ([("self", Value.ref x), (f, v)] : List (Str × Value)).reverse = some (Value.ref x) := by
    show List.lookup ("self" : Str) [(f, v), ("self", Value.ref x)] = _
    rw [List.lookup_cons, T.fo.nf]
    rfl
  have hfv : List.lookup f ([("self", Value.ref x), (f, v)] : List (Str × Value)).reverse = some v := by
    show List.lookup f [(f, v), (("self" : Str), Value.ref x)] = _
    rw [List.lookup_cons, show (f == f) = true from beq_self_eq_true f]
  have hns2 := hns
  show _root_.PySem.wpAt (model prog w) _ _ (execs (_ :: _) (ksEnv qual (xS f) s.heap.objs.size fI (.ref cda) cc)) _ _ _
  refine ks_wpAt_execs_cons (ks_wpAt_Expr_any (ks_wpAt_MethodCall (pl := do return (← importBound (.Call (.Name "super" q1) [] [] q2) (ksEnv qual (xS f) s.heap.objs.size fI (.ref cda) cc)).getD true) ?_ ?he))
  case he =>
    rw [arm_eval_Call]
    unfold methodCall calleeOf methodCallPos
    have hform : methodCallForm ([Expr.Constant (Const.str msg) j q4].length + ([] : List Keyword).length) (backTo q5 (starEach [Expr.Constant (Const.str msg) j q4] (ksEnv qual (xS f) s.heap.objs.size fI (.ref cda) cc))) (backToKw q5 (keywordEach [] (ksEnv qual (xS f) s.heap.objs.size fI (.ref cda) cc))) = true := rfl
    rw [hform]
    simp only [hline, Bool.or_true, if_true]
    rfl
  have hmr : ∀ {h : Heap}, K.In h → W.Looks (model prog w) h (mroOf (.ref C)) (.ref C :: bm) := fun X => (W.looks_clsIn X hcl).andThen .now
  refine ks_wpAt_super_base (env := ksEnv qual (xS f) s.heap.objs.size fI (.ref cda) cc) T.fo.ks T.fo.kc (by decide) rfl (X₁ _ _ ho) rfl rfl rfl (X₁ _ _ hcode) rfl hvs (beq_self_eq_true _) htop ?_
  refine ks_loadName_global rfl T.fo.ks (loadGlobal_builtin (env := ksEnv qual (xS f) s.heap.objs.size fI (.ref cda) cc) (hgl.keeps k₁) T.gS (hbl.keeps k₁) hbs ⟨rfl, ?_⟩)
  refine wpAny_loadName_free rfl T.fo.kc rfl ⟨_, X₁ _ _ hcell, rfl⟩ ?_
  refine wpAny_loadName_local rfl rfl hns hself ?_
  refine ks_wpAny_isType_cls hC₁ rfl ⟨rfl, ?_⟩
  refine ks_wpAny_call_super hC₁ rfl hx₁ rfl (fun c e => by cases e) (looks_mroIn X₁ T.selfC) (fun h₂ hso k₂ => ?_)
  have X₂ : K.In h₂ := X₁.keeps k₂
  have hx₂ := k₂ _ _ hx₁
  have I₂ : InstAt h₂ x (excO C t0) C none := ⟨hx₂, rfl, rfl, trivial⟩
  have hsu := T.su
  unfold ks_superIn at hsu
  rw [hcl, Option.bind_some] at hsu
  refine kxs_getMethod kxs_ValueError hso (looks_opaque X₂ T.opq) (hmr X₂) rfl X₂ hsu (I₂.type.andThen (looks_subIn X₂ T.veC)) (ks_ne X₂ I₂ hcl) (by decide) ?_
  show wpAny _ _ (callWith q5 (.ref h₂.objs.size) [] (backTo q5 ((false, eval (Expr.Constant (Const.str msg) j q4) (ksEnv qual (xS f) s.heap.objs.size fI (.ref cda) cc)) :: [])) []) _ _ _
  have k₃ : ∀ b o, h₂.get? b = some o → (h₂.push (kxs_mw "ValueError.__init__" x)).get? b = some o := fun b o e => Heap.get?_push_of_some _ e
  have hu₃ : (h₂.push (kxs_mw "ValueError.__init__" x)).get? h₂.objs.size = some (kxs_mw "ValueError.__init__" x) := Heap.get?_push_at rfl rfl
  refine kxs_callWith (i := "ValueError.__init__") (x := x) rfl (evalArgs_plain ?_)
  refine Calls.spliced_cons (Calls.Constant_str (k := j) (pos := q4) (Calls.spliced_nil ⟨hu₃, ?_⟩))
  refine xi_super (X₂.keeps k₃ _ _ hC) (k₃ _ _ hx₂) hu₃ (one_size _) fun h₄ t1 k₄ hx₄ => ?_
  have kk : ∀ b o, b ≠ x → h₁.get? b = some o → h₄.get? b = some o := fun b o hb e => k₄ b o hb (k₃ _ _ (k₂ _ _ e))
  have X₄ : K.In h₄ := fun a o e => kk a o (fun z => by rw [z, hnx] at e; cases e) (X₁ a o e)
  have hns₄ : h₄.Ns s.heap.objs.size (fun y => List.lookup y ([("self", Value.ref x), (f, v)] : List (Str × Value)).reverse) := by
    obtain ⟨oL, es, ep, hL, r⟩ := hns
    exact ⟨oL, es, ep, kk _ _ hxL hL, r⟩
  -- self.f = f
  refine wpAt_of_wpAny (wpAny_execs_cons (plainObj_wpAny_Assign_Attribute ?_ rfl))
  refine wpAny_Name (wpAny_loadName_local (env := ksEnv qual (xS f) s.heap.objs.size fI (.ref cda) cc) rfl T.fo.kf hns₄ hfv ?_) T.fo.nd
  refine wpAny_Name (wpAny_loadName_local (env := ksEnv qual (xS f) s.heap.objs.size fI (.ref cda) cc) rfl rfl hns₄ hself ?_) (by decide)
  refine set_plain X₄ (ox := excO C t1) (od := none) ⟨hx₄, rfl, rfl, trivial⟩ T.sa ?_
  refine exc_osa X₄ hx₄ hcl (show refsVE (.ref C :: bm) = true from hbm) rfl T.noN (fun h₅ tk₅ dx k₅ dn dne hx₅ hn₅ => ?_)
  refine wpAny_execs_nil (hq h₅ tk₅ dx t1 ⟨fun b o hb e => k₅ b o hb (kk b o hb (k₁ b o e)), hx₅, ?_, dne, hn₅⟩)
  have z : s.heap.objs.size < h₄.objs.size := hns₄.lt
  exact Nat.le_of_lt (Nat.lt_of_lt_of_le z dn)
/-- X(v) -/
theorem xi_made {mb : Str → Option Value} (T : ErrTxt prog.main.file K mg nm f C fI) {v : Value} (X : K.In s.heap) (hlim : s.heap.NoLimit) (hgl : s.heap.Ns mainGlobals mg) (hbl : s.heap.Ns builtinsNs mb) (hbs : mb "super" = some (.type "super"))
    (htop : (prog.main.scope.names.lookup ("super" : Str)).isSome = false) (hroom : A.depth + 1 < recursionLimit)
    (hq : ∀ h' tk e d, OwnMade s.heap h' f e C d v → R (.ok (.ret (.ref e))) { s with heap := h', toks := tk }) :
    codeAny (model prog w) A (.call (.ref C) ⟨[v], []⟩) R s := by
  obtain ⟨q, N, bs, bm, sn, sub, ab, col, dd, k0, k1, k2, k3, k5, hC, hbm⟩ := T.cls
  obtain ⟨hp, g, dr, tk, os⟩ := s
  have k : ∀ b o, hp.get? b = some o → ((hp.push (kdv_tup [v])).push (excO C hp.objs.size)).get? b = some o := fun b o e => Heap.get?_push_of_some _ (Heap.get?_push_of_some _ e)
  have hget : ((hp.push (kdv_tup [v])).push (excO C hp.objs.size)).get? (hp.objs.size + 1) = some (excO C hp.objs.size) := by heap_get
  have hnx : K.lookup (hp.objs.size + 1) = none := by
    cases e : K.lookup (hp.objs.size + 1) with
    | none => rfl
    | some o =>
      have z : hp.get? (hp.objs.size + 1) = some o := X _ _ e
      exact absurd (Nat.lt_of_succ_lt (Heap.lt_size z)) (Nat.lt_irrefl _)
  refine call_own F.excBase_ValueError (fun X => refsVE_contains X bm hbm) (X _ _ hC) (looks_findIn X T.iC) (fun self => bind_fn X self T.tC) (one_size v) ?_
  refine xi_init (s := ⟨(hp.push (kdv_tup [v])).push (excO C hp.objs.size), g, dr, tk, os⟩) T (X.keeps k) (hlim.keeps k) (hgl.keeps k) (hbl.keeps k) hbs htop hget hnx ?_ fun h' tk' dx t1 ⟨k', hx, dn, dne, hns⟩ => ?_
  · show A.depth + 1 < recursionLimit
    exact hroom
  · have old : ∀ b o, hp.get? b = some o → h'.get? b = some o := fun b o e => k' b o (Nat.ne_of_lt (Nat.lt_succ_of_lt (Heap.lt_size e))) (k b o e)
    have z : hp.objs.size + 1 + 1 ≤ dx := by
      first
        | (simpa only [Heap.size_push] using dn)
        | exact dn
        | (have q := dn; rw [Heap.size_push, Heap.size_push] at q; exact q)
    exact ⟨rfl, hq h' tk' (hp.objs.size + 1) dx ⟨old, Nat.le_succ _, ⟨_, hx⟩, Nat.le_trans (Nat.le_trans (Nat.le_succ _) (Nat.le_succ _)) z, dne, hns⟩⟩
end
end LwX
end PySem
namespace L2
open PySem PySem.Spec PyProof.Rows
theorem relO_one {v : V} {v' : Value} (r : RelV v v') (f g : Str) : RelO (List.lookup g [(f, v)]) (if g = f then some v' else none) := by
  by_cases hw : g = f
  · subst hw
    rw [if_pos rfl]
    have q : List.lookup g [(g, v)] = some v := by simp [List.lookup]
    rw [q]
    exact r
  · rw [if_neg hw]
    have qw : (g == f) = false := by simpa using hw
    have q2 : List.lookup g [(f, v)] = none := by simp [List.lookup, qw]
    rw [q2]
    trivial
section
variable {X : Cx} {nm f : Str} {C fI : Addr}
/-- X(e), X an own error with one field f -/
def tMkErr (C : Addr) (f : Str) (ta : TA) : St → Hp → XK → Prop := fun σ H Q => ta σ H fun vs H1 => ∃ v, vs = [v] ∧ ∀ d, H1 d = none → Q (.ref C) (some d) (upd H1 d (.xd [(f, v)]))
theorem pmk5_err {a : Expr} {ta : TA} {p pos : Pos} (T : PySem.LwX.ErrTxt X.prog.main.file X.K X.mg nm f C fI) (htop : (X.prog.main.scope.names.lookup ("super" : Str)).isSome = false) (hroom : X.A.depth + 3 < recursionLimit) (ha : PA X [a] ta) (hg : Gl X nm) (hnd : (nm == ("__debug__" : Str)) = false)
    (he : starEach (a :: []) X.env = (false, eval a X.env) :: starEach [] X.env := by rfl) (hpl : (backTo pos (starEach [] X.env)).any (·.1) = false := by rfl) :
    L2H.PMk5 X (.Call (.Name nm p) [a] [] pos) (tMkErr C f ta) := by
  intro pins s σ H Q I h
  refine wpAny_Call_Name_kw (ld_glob I hg T.gC ?_ hnd)
  refine PySem.W.callWith_K (h₀ := X.base) I.ok.mod.kin T.kC (thn (ha.run pos pins s σ H _ I h) fun us s1 hh => ?_) he hpl
  obtain ⟨vs, H1, I1, r1, v, ev, q1⟩ := hh
  subst ev
  refine ⟨I1.kIn, ?_⟩
  cases r1 with
  | cons rv rn =>
    rename_i v' us'
    cases rn
    show wpAny _ _ (call (.ref C) [v']) _ _ _
    have hlim := I1.nolimit
    obtain ⟨mb, hbl, hbx⟩ := I1.ok.mod.blt
    have hgl1 := I1.mod.glob.keeps I1.bk
    have hbl1 := hbl.keeps I1.bk
    have hbs : mb "super" = some (.type "super") := (hbx "super" (by decide +kernel)).trans (by first | rfl | kernel_rfl | decide +kernel)
    obtain ⟨hp, g, dr, tk, os⟩ := s1
    refine wpAny_call (PySem.LwX.xi_made T I1.kIn hlim hgl1 hbl1 hbs htop (by omega) fun h' tk' e d M => ?_)
    show L2N.MkP X pins σ Q (.ref e) ⟨h', g, dr, tk', os⟩ ∧ L2H.Six (.ref e) ⟨h', g, dr, tk', os⟩
    obtain ⟨t1, hoe⟩ := M.obj
    have hns := M.ns
    obtain ⟨G', g1, g2⟩ := restrict h' fun b => decide (b ≠ e)
    have gk : ∀ b, b ≠ e → G'.get? b = h'.get? b := fun b hb => g1 b (decide_eq_true hb)
    have ge : G'.get? e = none := g2 e (by simp)
    have old : ∀ b o, hp.get? b = some o → G'.get? b = some o := fun b o q => (gk b (Nat.ne_of_lt (Nat.lt_of_lt_of_le (Heap.lt_size q) M.new))).trans (M.keep b o q)
    have ob : ObjOk X.prog X.w (upd H1 d (.xd [(f, v)])) G' d (.xd [(f, v)]) :=
      ⟨_, hns.at (fun o q => (gk d M.dne).trans q), fun g => relO_one rv f g⟩
    have J : Inv X pins σ (upd H1 d (.xd [(f, v)])) ⟨G', g, dr, tk', os⟩ := I1.laid (t' := tk') old M.dbig ob
    refine ⟨⟨e, _, _, ⟨G', g, dr, tk', os⟩, _, .ref C, some d, rfl, J, fun b o q => ?_, ge, hoe, ⟨rfl, rfl, fun vs z => by cases z; rfl⟩, rfl, rfl, ?_, rfl, I1.bare, raises_own T.exC T.tyC, q1 d (I1.hok.fresh M.dbig)⟩, fun a oe vs ea hg hd => ?_⟩
    · by_cases hb : b = e
      · have q' : G'.get? b = some o := q
        rw [hb, ge] at q'; cases q'
      · exact (gk b hb).symm.trans q
    · rw [upd_ne (Ne.symm M.dne)]
      exact I1.hok.fresh M.new
    · cases ea
      have hg' : h'.get? e = some oe := hg
      rw [hoe] at hg'
      cases hg'
      cases hd
      show (4 : Nat) < 6
      decide
/-- what is made with no context serves where none is asked -/
theorem pmk_of5 {e : Expr} {t : St → Hp → XK → Prop} (h : L2H.PMk5 X e t) : PMk X e t := fun pins s σ H Q I q => thn (h pins s σ H Q I q) fun u s' x => by
  obtain ⟨⟨a, oe, vs, sI, H', cls, d, e1, J, k, n1, e2, hz, r⟩, _⟩ := x
  exact ⟨a, oe, vs, sI, H', cls, d, e1, J, k, n1, e2, hz.zc, r⟩
/-- raise X(e), where nothing is handled: for a def whose errors have no context (L2N), and for any -/
def tRaise (C : Addr) (f : Str) (W : WX) (ta : TA) : TS := fun _ σ H => tMkErr C f ta σ H fun cls d H' => W cls d σ H'
theorem ps_raiseE {a : Expr} {ta : TA} {W : WX} {p pos pos2 : Pos} (hc : X.calm = true) (T : PySem.LwX.ErrTxt X.prog.main.file X.K X.mg nm f C fI) (htop : (X.prog.main.scope.names.lookup ("super" : Str)).isSome = false) (hroom : X.A.depth + 3 < recursionLimit) (tk : Takes X W) (ha : PA X [a] ta) (hg : Gl X nm) (hnd : (nm == ("__debug__" : Str)) = false)
    (he : starEach (a :: []) X.env = (false, eval a X.env) :: starEach [] X.env := by rfl) (hpl : (backTo pos (starEach [] X.env)).any (·.1) = false := by rfl) :
    PS X (.Raise (some (.Call (.Name nm p) [a] [] pos)) none pos2) (tRaise C f W ta) := ps_raise hc tk (pmk_of5 (pmk5_err T htop hroom ha hg hnd he hpl))
/-- isinstance(e, c), e the exception that the suite holds, with a dict of its own -/
def rIsED (K : PySem.W.Frag) (D a : Addr) (cls : Value) (d : Option Addr) : List V → Hp → VK → Prop := fun xs H Q => ∃ (c : V) (cv : Value) (b : Bool) (dd : Addr) (fs : List (Str × V)), xs = [.ref a, c] ∧ cls = .ref D ∧ (∀ u, RelV c u → u = cv) ∧ PySem.W.kitOne K (.ref D) cv = some b ∧ d = some dd ∧ H dd = some (.xd fs) ∧ Q (.bl b) H
end
theorem room3 {k : Nat} {A : Around} (hr : Room k A) : A.depth + 3 < recursionLimit := by have := hr.dp; omega
/-- an error of the class at S is what «except S» names -/
theorem exm_self {K : PySem.W.Frag} {S : Addr} (h1 : PySem.W.subIn K (.ref S) (.type "BaseException") = some true) (h2 : PySem.W.isClsIn K S = true) (h3 : PySem.W.typeIn K (.ref S) = some (.type "type")) (h4 : PySem.W.subIn K (.ref S) (.ref S) = some true) :
    PySem.W.exmOne K (.ref S) (.ref S) = some true := by
  have e1 : (PySem.W.subIn K (.ref S) (.type "BaseException") == some true) = true := by rw [h1] <;> rfl
  have e2 : ((PySem.W.clsIn K S).isSome && PySem.W.typeIn K (.ref S) == some (.type "type")) = true := by
    have h2' : (PySem.W.clsIn K S).isSome = true := h2
    rw [h2', h3] <;> rfl
  show (if (PySem.W.subIn K (.ref S) (.type "BaseException") == some true) = true then (if ((PySem.W.clsIn K S).isSome && PySem.W.typeIn K (.ref S) == some (.type "type")) = true then PySem.W.subIn K (.ref S) (.ref S) else none) else none) = some true
  rw [if_pos e1, if_pos e2]
  exact h4
end L2
namespace PySem
open Builtin Builtin.Str
end PySem
namespace L2
open PySem PySem.Spec PyProof.Rows
/-- o.replace(y, z, 1), y written, in the text -/
def rRepl1 (y z : Str) : V → Hp → VK → Prop := fun v H1 Q => ∃ x : Str, v = .str x ∧ x.length ≤ 100000 ∧ y.length ≤ 10 ∧ 0 < y.length ∧ z.length ≤ 10 ∧ Builtin.Str.occurrences x y 0 x.length 1 ≠ [] ∧ (Builtin.Str.glued z (Builtin.Str.partsBetween x (Builtin.Str.occurrences x y 0 x.length 1) y.length)).length ≤ sizeLine ∧ Q (.str (Builtin.Str.glued z (Builtin.Str.partsBetween x (Builtin.Str.occurrences x y 0 x.length 1) y.length))) H1
def tRepl1 (to : TE) (y z : Str) : TE := fun σ H Q => to σ H fun v H1 => rRepl1 y z v H1 Q
end L2
namespace L2
open PySem PySem.Spec PyProof.Rows
/-! ### a call of a def that a table holds -/
def tCallV (S : Addr → Sp → Prop) (tf : TE) (t : TA) : TE := fun σ H Q => tf σ H fun v H1 => ∃ f sp, v = .ref f ∧ S f sp ∧ t σ H1 fun vs H2 => sp vs H2 Q (fun _ _ _ => False)
end L2
namespace L2
open PySem PySem.Spec PyProof.Rows
/-! ### min(xs, default=d) of a list of ints -/
end L2
namespace L2
open PySem PySem.Spec PyProof.Rows
/-! ### a method of an object of one of several classes -/
structure MHeld (P : Program) (w : World) (K : PySem.W.Frag) (mg : Str → Option Value) (base : Heap) (k : Nat) (m : Str) (C : Addr) (sp : Sp) : Prop where
  cls : Cls K C
  ex : ∃ (f : Addr) (fd : FuncData) (ps : List Str), Meth K C m f ∧ FnOk P w K mg base (fun _ _ _ _ _ _ => False) k f fd ps sp ∧ Binds K fd ps []
def tMethV (S : Addr → Sp → Prop) (m : Str) (ta : TE) (t : TA) : TE := fun σ H Q => ta σ H fun x H1 => ∃ a C sp dx fs, x = .ref a ∧ H1 a = some (.ins C dx fs) ∧ S C sp ∧ fs.lookup m = none ∧ t σ H1 fun vs H2 => sp (x :: vs) H2 Q (fun _ _ _ => False)
section
variable {X : Cx} {k : Nat} {o e : Expr} {es : List Expr} {ta : TE} {t : TA} {pos apos : Pos} {m : Str}
theorem pe_methV {pl : Sem Bool} {S : Addr → Sp → Prop} (A : ∀ C sp, S C sp → MHeld X.prog X.w X.K X.mg X.base k m C sp) (hr : Room k X.A) (he : PE X o ta) (ha : PA X (e :: es) t)
    (hst : starEach (e :: es) X.env = (false, eval e X.env) :: starEach es X.env := by rfl) (hpl : (backTo pos (starEach es X.env)).any (·.1) = false := by rfl)
    (ht : eval (.Call (.Attribute o m apos) (e :: es) [] pos) X.env = (do
      let ov ← eval o X.env
      standAt apos.atName
      let (f, first) ← holding [ov] (getMethod ov m pl)
      callWith pos f first (backTo pos (starEach (e :: es) X.env)) (backToKw pos (keywordEach [] X.env))) := by rfl) :
    PE X (.Call (.Attribute o m apos) (e :: es) [] pos) (tMethV S m ta t) := by
  refine ⟨fun pins s σ H Q I h => ?_⟩
  refine PySem.W.methodCall_KW (pl := pl) (thn (he.run pins s σ H _ I h) fun u s1 ⟨x, H1, I1, rx, a, C, sp, dx, fs, ex, ea, hS, l, q⟩ => ?_) ht
  subst ex
  obtain rfl : u = Value.ref a := rx
  obtain ⟨c, f, fd, ps, hm, F, hb⟩ := A C sp hS
  refine getmeth_ok I1 ea c hm l ?_
  have q0 : t σ H1 fun vs H2 => sp (V.ref a :: (vs ++ [])) H2 Q (fun _ _ _ => False) := by
    have e0 : (fun (vs : List V) (H2 : Hp) => sp (V.ref a :: (vs ++ [])) H2 Q (fun _ _ _ => False)) = fun vs H2 => sp (V.ref a :: vs) H2 Q (fun _ _ _ => False) := by
      funext vs H2
      rw [List.append_nil]
    show t σ H1 (fun (vs : List V) (H2 : Hp) => sp (V.ref a :: (vs ++ [])) H2 Q (fun _ _ _ => False))
    rw [e0]
    exact q
  refine PySem.W.callWith_K (first := [.ref a]) (h₀ := X.base) I.ok.mod.kin hm.kp (thn (ha.run pos pins s1 σ H1 _ I1 q0) fun us s2 ⟨vs, H2, I2, r, q2⟩ => ⟨I2.kIn, ?_⟩) hst hpl
  exact run_fn (us := .ref a :: us) (vs := .ref a :: vs) F hr hb .nil (fun _ _ _ _ _ _ _ z => z.elim) I2 (.cons rfl r) q2
end
end L2
namespace Lw
open PySem PySem.Spec PyProof.Rows L2
open Evl (Ex)
namespace Hd
open PySem.W PySem.Calls
/-- a property's getter -/
def prF (K : Frag) (C : Addr) (m : Str) : Addr := match recIn K (He.ma K C m) "property" with
  | some (.ref f :: _) => f
  | _ => 0
abbrev FnO : Type := Option (Str × Str × Arguments × FuncBody × Scope × Addr × List Str × Value × Addr)
def fnO (K : Frag) (a : Addr) : FnO := match K.lookup a with
  | some ⟨_, _, .func fd, _⟩ => some (fd.name, fd.qualname, fd.params, fd.body, fd.scope, fd.globals, fd.closure.map (·.1), fd.defaults, fd.builtins)
  | _ => none
structure DefO where
  at_ : Frag → Addr
  name : Str
  qual : Str
  params : Arguments
  body : List Stmt
  scope : Scope
  cl : List Str
def DefO.val (d : DefO) : FnO := some (d.name, d.qual, d.params, .stmts d.body, d.scope, mainGlobals, d.cl, .none, builtinsNs)
/-- a def by its statement -/
def mkO (f : Frag → Addr) (x q : Str) (st : Stmt) : DefO := ⟨f, x, q, defArgs st, defBody st, defScope st, []⟩
/-- the __init__ of an own error -/
def mkE (C : Str) (q f msg : Str) (p1 p2 q1 q2 q3 q4 q5 q6 q7 q8 q9 q10 : Pos) : DefO := ⟨fun K => He.ma K (He.ga K C) "__init__", "__init__", q, PySem.LwX.xA f p1 p2, PySem.LwX.xB msg f 0 q1 q2 q3 q4 q5 q6 q7 q8 q9 q10, PySem.LwX.xS f, ["__class__"]⟩
def codeB (K : Frag) (a : Addr) (q : Str) : Bool := match K.lookup a with
  | some ⟨_, _, .func fd, _⟩ => codeIn K fd.code q
  | _ => false
def strB (vs : Array Value) (file : Str) : Bool := match (vs[2]? : Option Value) with
  | some (.str z _) => decide (z = file)
  | _ => false
def errB (K : Frag) (a : Addr) (q file : Str) (C : Addr) : Bool := match K.lookup a with
  | some ⟨_, _, .func fd, _⟩ => (match fd.kwdefaults with | .none => true | _ => false) && (codeIn K fd.code q && ((match fd.code with
    | .ref c => (match K.lookup c with
      | some ⟨_, _, .fields vs, _⟩ => strB vs file
      | _ => false)
    | _ => false) && (match fd.closure with
    | [(_, cc)] => (match K.lookup cc with
      | some ⟨_, _, .cell (some (.ref D)), _⟩ => decide (D = C)
      | _ => false)
    | _ => false)))
  | _ => false
def clsB (K : Frag) (C : Addr) (nm : Str) : Bool := match K.lookup C with
  | some ⟨.type t, _, .cls cd, sl⟩ => decide (t = "type") && (decide (cd.name = nm) && ((match cd.mro with
    | .ref D :: bm => decide (D = C) && PySem.HandSPX.refsVE bm
    | _ => false) && (cd.hasDict && (!cd.hasDel && (match sl.toList with
    | [_, _, _, _, some (.builtin n), _] => decide (n = "ValueError.__new__")
    | _ => false)))))
  | _ => false
def refsL (o : Obj) : List Addr := match o with
  | ⟨_, _, .func fd, _⟩ => He.refV fd.code ++ fd.closure.map (·.2)
  | ⟨_, _, .cls cd, _⟩ => cd.ns :: cd.mro.tail.flatMap He.refV
  | ⟨_, _, .dict es _, _⟩ => es.toList.flatMap fun e => He.refV e.val
  | ⟨.type t, _, .fields vs, _⟩ => (match t == "property" with
    | true => vs.toList.flatMap He.refV
    | false => [])
  | _ => []
def nextL (g : Addr → Option Obj) (as : List Addr) : List Addr := as.flatMap fun a => match g a with
  | some o => refsL o
  | none => []
def levL (g : Addr → Option Obj) : Nat → List Addr → List Addr
  | 0, as => as
  | n + 1, as => as ++ levL g n (nextL g as)
def asL (g : Addr → Option Obj) : List Addr := levL g 5 [mainGlobals] ++ [cStatics]
def frK {α : Type} : Frag → (Frag → α) → α
  | [], k => k []
  | (a, o) :: r, k => frK r fun r => k ((a, o) :: r)
theorem frK_eq {α : Type} : ∀ (K : Frag) (k : Frag → α), frK K k = k K
  | [], k => rfl
  | (a, o) :: r, k => frK_eq r fun r => k ((a, o) :: r)
abbrev AlH : Type := Bool × List FnO × List (Option (List (Option (Str × Int))))
def obsH (ex : Frag → List (List Bool)) (fn : List DefO) (ts : List (Frag → Addr)) (K : Frag) : AlH := ((ex K).all fun b => b.all id, fn.map fun d => fnO K (d.at_ K), ts.map fun t => He.dicW K (t K))
def valH (fn : List DefO) (ks : List (List Str)) (w : World) : AlH := (true, fn.map DefO.val, ks.map fun k => some (He.keysIn w.params k))
def SaysH (ex : Frag → List (List Bool)) (fn : List DefO) (ts : List (Frag → Addr)) (ks : List (List Str)) (w : World) (K : Frag) : Prop := obsH ex fn ts K = valH fn ks w
def obsHG (ex : Frag → List (List Bool)) (fn : List DefO) (ts : List (Frag → Addr)) (g : Addr → Option Obj) : AlH := frK (He.frG g (asL g)) fun K => obsH ex fn ts K
def hookH (ex : Frag → List (List Bool)) (fn : List DefO) (ts : List (Frag → Addr)) (ks : List (List Str)) : Hook where
  α := AlH
  obs := fun s => obsHG ex fn ts s.heap.get?
  val := fun w => valH fn ks w
  says := fun w h => ∃ K : Frag, K.In h ∧ SaysH ex fn ts ks w K
  of := fun _ _ e => ⟨_, He.frG_in, by
    unfold obsHG at e
    rw [frK_eq] at e
    exact e⟩
  keeps := fun _ _ _ ⟨K, hK, c⟩ k => ⟨K, Frag.In.keeps hK k, c⟩
theorem obsHG_eq {ex : Frag → List (List Bool)} {fn : List DefO} {ts : List (Frag → Addr)} {ks : List (List Str)} {g : Addr → Option Obj} {s : Shared} (h : ∀ a, g a = s.heap.get? a) : obsHG ex fn ts g = (hookH ex fn ts ks).obs s := by
  have e : g = s.heap.get? := funext h
  rw [e] <;> rfl
end Hd
--RUN BEGIN
def topS (i : Nat) : Stmt := PySem.Challenge.pw_limitweave_k25_answers.main.body.getD i (.Pass ⟨0, 0, 0, 0⟩)
abbrev s_is_name : Stmt := topS 16
abbrev s_is_key : Stmt := topS 17
abbrev s_check_request : Stmt := topS 18
abbrev s_check_moment : Stmt := topS 19
abbrev s_ascends : Stmt := topS 20
abbrev s_check_names : Stmt := topS 21
abbrev s_are_shares : Stmt := topS 22
abbrev s_has_form : Stmt := topS 23
abbrev s_check_pool : Stmt := topS 24
abbrev s_check_numbers : Stmt := topS 25
abbrev s_check_limit : Stmt := topS 26
abbrev s_looks_at : Stmt := topS 27
abbrev s_first_of : Stmt := topS 29
abbrev s_common_of : Stmt := topS 37
abbrev s_share_for : Stmt := topS 38
abbrev s_meter_for : Stmt := topS 41
abbrev s__law_row : Stmt := topS 47
abbrev s__law_numbers : Stmt := topS 48
abbrev s__law_is_integer : Stmt := topS 49
abbrev s__law_names : Stmt := topS 50
abbrev s__law_keys : Stmt := topS 51
abbrev s__law_shares : Stmt := topS 52
abbrev s__law_limit : Stmt := topS 53
abbrev s__law_limits : Stmt := topS 54
abbrev s__law_group_names : Stmt := topS 55
abbrev s__law_cost : Stmt := topS 56
abbrev s__law_step : Stmt := topS 57
abbrev s__law_start : Stmt := topS 58
abbrev s__law_after : Stmt := topS 59
abbrev s__law_looks : Stmt := topS 60
abbrev s__law_pool_room : Stmt := topS 61
abbrev s__law_room : Stmt := topS 62
abbrev s__law_lacking : Stmt := topS 63
abbrev s__law_is_never : Stmt := topS 64
abbrev s__law_is_earliest : Stmt := topS 65
abbrev s__law_is_answer : Stmt := topS 66
abbrev s__law_is_unknown : Stmt := topS 67
abbrev s_law : Stmt := topS 68
abbrev s_Book_init : Stmt := inClass (topS 28) 0
abbrev s_Book_limits : Stmt := inClass (topS 28) 1
abbrev s_WindowMeter_init : Stmt := inClass (topS 31) 0
abbrev s_WindowMeter_sums_since : Stmt := inClass (topS 31) 2
abbrev s_WindowMeter_room : Stmt := inClass (topS 31) 3
abbrev s_WindowMeter_earliest : Stmt := inClass (topS 31) 4
abbrev s_WindowMeter_let : Stmt := inClass (topS 31) 5
abbrev s_SpanMeter_init : Stmt := inClass (topS 32) 0
abbrev s_SpanMeter_used_in : Stmt := inClass (topS 32) 2
abbrev s_SpanMeter_room : Stmt := inClass (topS 32) 3
abbrev s_SpanMeter_earliest : Stmt := inClass (topS 32) 4
abbrev s_SpanMeter_let : Stmt := inClass (topS 32) 5
abbrev s_BucketMeter_init : Stmt := inClass (topS 33) 0
abbrev s_BucketMeter_missing_at : Stmt := inClass (topS 33) 2
abbrev s_BucketMeter_too_much : Stmt := inClass (topS 33) 3
abbrev s_BucketMeter_room : Stmt := inClass (topS 33) 4
abbrev s_BucketMeter_earliest : Stmt := inClass (topS 33) 5
abbrev s_BucketMeter_let : Stmt := inClass (topS 33) 6
abbrev s_GapMeter_init : Stmt := inClass (topS 34) 0
abbrev s_GapMeter_room : Stmt := inClass (topS 34) 2
abbrev s_GapMeter_earliest : Stmt := inClass (topS 34) 3
abbrev s_GapMeter_let : Stmt := inClass (topS 34) 4
abbrev s_HeldMeter_init : Stmt := inClass (topS 35) 0
abbrev s_HeldMeter_room : Stmt := inClass (topS 35) 2
abbrev s_HeldMeter_earliest : Stmt := inClass (topS 35) 3
abbrev s_HeldMeter_let : Stmt := inClass (topS 35) 4
abbrev s_PoolMeter_init : Stmt := inClass (topS 39) 0
abbrev s_PoolMeter_borrowed : Stmt := inClass (topS 39) 2
abbrev s_PoolMeter_room : Stmt := inClass (topS 39) 3
abbrev s_PoolMeter_earliest : Stmt := inClass (topS 39) 4
abbrev s_PoolMeter_let : Stmt := inClass (topS 39) 5
abbrev s_Answer_init : Stmt := inClass (topS 44) 0
abbrev s_Answer_parts : Stmt := inClass (topS 44) 1
abbrev s_Keeper_init : Stmt := inClass (topS 45) 0
abbrev s_Keeper__check_next : Stmt := inClass (topS 45) 1
abbrev s_Keeper__check_known : Stmt := inClass (topS 45) 2
abbrev s_Keeper__let : Stmt := inClass (topS 45) 3
abbrev s_Keeper__earliest : Stmt := inClass (topS 45) 4
abbrev s_Keeper_ask : Stmt := inClass (topS 45) 5
abbrev s_Keeper_knows : Stmt := inClass (topS 45) 8
abbrev s_Keeper_answer_of : Stmt := inClass (topS 45) 9
/-! ### the head by facts -/
def file : Str := PySem.Challenge.rw_limitweave_k25_answers.prog.main.file
def hdEx0 (K : PySem.W.Frag) : List Bool := [He.valsB K (He.ga K "SIZES") [(("window" : Str), He.Dv.int 2), (("span" : Str), He.Dv.int 2), (("bucket" : Str), He.Dv.int 2), (("gap" : Str), He.Dv.int 1), (("held" : Str), He.Dv.int 1), (("pool" : Str), He.Dv.int 2)],
  decide (PySem.W.nsIn K mainGlobals "SIZES" = some (some (.ref (He.ga K "SIZES")))),
  Hd.codeB K (He.ga K "is_name") "is_name",
  PySem.W.keepIn K (.ref (He.ga K "is_name")),
  decide (PySem.W.nsIn K mainGlobals "is_name" = some (some (.ref (He.ga K "is_name")))),
  Hd.codeB K (He.ga K "is_key") "is_key",
  PySem.W.keepIn K (.ref (He.ga K "is_key")),
  decide (PySem.W.nsIn K mainGlobals "is_key" = some (some (.ref (He.ga K "is_key")))),
  Hd.codeB K (He.ga K "check_request") "check_request",
  PySem.W.keepIn K (.ref (He.ga K "check_request")),
  decide (PySem.W.nsIn K mainGlobals "check_request" = some (some (.ref (He.ga K "check_request")))),
  Hd.codeB K (He.ga K "check_moment") "check_moment",
  PySem.W.keepIn K (.ref (He.ga K "check_moment")),
  decide (PySem.W.nsIn K mainGlobals "check_moment" = some (some (.ref (He.ga K "check_moment")))),
  Hd.codeB K (He.ga K "ascends") "ascends",
  PySem.W.keepIn K (.ref (He.ga K "ascends")),
  decide (PySem.W.nsIn K mainGlobals "ascends" = some (some (.ref (He.ga K "ascends")))),
  Hd.codeB K (He.ga K "check_names") "check_names",
  PySem.W.keepIn K (.ref (He.ga K "check_names")),
  decide (PySem.W.nsIn K mainGlobals "check_names" = some (some (.ref (He.ga K "check_names")))),
  Hd.codeB K (He.ga K "are_shares") "are_shares",
  PySem.W.keepIn K (.ref (He.ga K "are_shares")),
  decide (PySem.W.nsIn K mainGlobals "are_shares" = some (some (.ref (He.ga K "are_shares")))),
  Hd.codeB K (He.ga K "has_form") "has_form",
  PySem.W.keepIn K (.ref (He.ga K "has_form")),
  decide (PySem.W.nsIn K mainGlobals "has_form" = some (some (.ref (He.ga K "has_form")))),
  Hd.codeB K (He.ga K "check_pool") "check_pool",
  PySem.W.keepIn K (.ref (He.ga K "check_pool")),
  decide (PySem.W.nsIn K mainGlobals "check_pool" = some (some (.ref (He.ga K "check_pool")))),
  Hd.codeB K (He.ga K "check_numbers") "check_numbers",
  PySem.W.keepIn K (.ref (He.ga K "check_numbers")),
  decide (PySem.W.nsIn K mainGlobals "check_numbers" = some (some (.ref (He.ga K "check_numbers")))),
  Hd.codeB K (He.ga K "check_limit") "check_limit",
  PySem.W.keepIn K (.ref (He.ga K "check_limit")),
  decide (PySem.W.nsIn K mainGlobals "check_limit" = some (some (.ref (He.ga K "check_limit")))),
  Hd.codeB K (He.ga K "looks_at") "looks_at",
  PySem.W.keepIn K (.ref (He.ga K "looks_at")),
  decide (PySem.W.nsIn K mainGlobals "looks_at" = some (some (.ref (He.ga K "looks_at")))),
  Hd.codeB K (He.ga K "first_of") "first_of",
  PySem.W.keepIn K (.ref (He.ga K "first_of"))]
def hdEx1 (K : PySem.W.Frag) : List Bool := [decide (PySem.W.nsIn K mainGlobals "first_of" = some (some (.ref (He.ga K "first_of")))),
  Hd.codeB K (He.ga K "common_of") "common_of",
  PySem.W.keepIn K (.ref (He.ga K "common_of")),
  decide (PySem.W.nsIn K mainGlobals "common_of" = some (some (.ref (He.ga K "common_of")))),
  Hd.codeB K (He.ga K "share_for") "share_for",
  PySem.W.keepIn K (.ref (He.ga K "share_for")),
  decide (PySem.W.nsIn K mainGlobals "share_for" = some (some (.ref (He.ga K "share_for")))),
  Hd.codeB K (He.ga K "meter_for") "meter_for",
  PySem.W.keepIn K (.ref (He.ga K "meter_for")),
  decide (PySem.W.nsIn K mainGlobals "meter_for" = some (some (.ref (He.ga K "meter_for")))),
  Hd.codeB K (He.ga K "_law_row") "_law_row",
  PySem.W.keepIn K (.ref (He.ga K "_law_row")),
  decide (PySem.W.nsIn K mainGlobals "_law_row" = some (some (.ref (He.ga K "_law_row")))),
  Hd.codeB K (He.ga K "_law_numbers") "_law_numbers",
  PySem.W.keepIn K (.ref (He.ga K "_law_numbers")),
  decide (PySem.W.nsIn K mainGlobals "_law_numbers" = some (some (.ref (He.ga K "_law_numbers")))),
  Hd.codeB K (He.ga K "_law_is_integer") "_law_is_integer",
  PySem.W.keepIn K (.ref (He.ga K "_law_is_integer")),
  decide (PySem.W.nsIn K mainGlobals "_law_is_integer" = some (some (.ref (He.ga K "_law_is_integer")))),
  Hd.codeB K (He.ga K "_law_names") "_law_names",
  PySem.W.keepIn K (.ref (He.ga K "_law_names")),
  decide (PySem.W.nsIn K mainGlobals "_law_names" = some (some (.ref (He.ga K "_law_names")))),
  Hd.codeB K (He.ga K "_law_keys") "_law_keys",
  PySem.W.keepIn K (.ref (He.ga K "_law_keys")),
  decide (PySem.W.nsIn K mainGlobals "_law_keys" = some (some (.ref (He.ga K "_law_keys")))),
  Hd.codeB K (He.ga K "_law_shares") "_law_shares",
  PySem.W.keepIn K (.ref (He.ga K "_law_shares")),
  decide (PySem.W.nsIn K mainGlobals "_law_shares" = some (some (.ref (He.ga K "_law_shares")))),
  Hd.codeB K (He.ga K "_law_limit") "_law_limit",
  PySem.W.keepIn K (.ref (He.ga K "_law_limit")),
  decide (PySem.W.nsIn K mainGlobals "_law_limit" = some (some (.ref (He.ga K "_law_limit")))),
  Hd.codeB K (He.ga K "_law_limits") "_law_limits",
  PySem.W.keepIn K (.ref (He.ga K "_law_limits")),
  decide (PySem.W.nsIn K mainGlobals "_law_limits" = some (some (.ref (He.ga K "_law_limits")))),
  Hd.codeB K (He.ga K "_law_group_names") "_law_group_names",
  PySem.W.keepIn K (.ref (He.ga K "_law_group_names")),
  decide (PySem.W.nsIn K mainGlobals "_law_group_names" = some (some (.ref (He.ga K "_law_group_names")))),
  Hd.codeB K (He.ga K "_law_cost") "_law_cost",
  PySem.W.keepIn K (.ref (He.ga K "_law_cost")),
  decide (PySem.W.nsIn K mainGlobals "_law_cost" = some (some (.ref (He.ga K "_law_cost"))))]
def hdEx2 (K : PySem.W.Frag) : List Bool := [Hd.codeB K (He.ga K "_law_step") "_law_step",
  PySem.W.keepIn K (.ref (He.ga K "_law_step")),
  decide (PySem.W.nsIn K mainGlobals "_law_step" = some (some (.ref (He.ga K "_law_step")))),
  Hd.codeB K (He.ga K "_law_start") "_law_start",
  PySem.W.keepIn K (.ref (He.ga K "_law_start")),
  decide (PySem.W.nsIn K mainGlobals "_law_start" = some (some (.ref (He.ga K "_law_start")))),
  Hd.codeB K (He.ga K "_law_after") "_law_after",
  PySem.W.keepIn K (.ref (He.ga K "_law_after")),
  decide (PySem.W.nsIn K mainGlobals "_law_after" = some (some (.ref (He.ga K "_law_after")))),
  Hd.codeB K (He.ga K "_law_looks") "_law_looks",
  PySem.W.keepIn K (.ref (He.ga K "_law_looks")),
  decide (PySem.W.nsIn K mainGlobals "_law_looks" = some (some (.ref (He.ga K "_law_looks")))),
  Hd.codeB K (He.ga K "_law_pool_room") "_law_pool_room",
  PySem.W.keepIn K (.ref (He.ga K "_law_pool_room")),
  decide (PySem.W.nsIn K mainGlobals "_law_pool_room" = some (some (.ref (He.ga K "_law_pool_room")))),
  Hd.codeB K (He.ga K "_law_room") "_law_room",
  PySem.W.keepIn K (.ref (He.ga K "_law_room")),
  decide (PySem.W.nsIn K mainGlobals "_law_room" = some (some (.ref (He.ga K "_law_room")))),
  Hd.codeB K (He.ga K "_law_lacking") "_law_lacking",
  PySem.W.keepIn K (.ref (He.ga K "_law_lacking")),
  decide (PySem.W.nsIn K mainGlobals "_law_lacking" = some (some (.ref (He.ga K "_law_lacking")))),
  Hd.codeB K (He.ga K "_law_is_never") "_law_is_never",
  PySem.W.keepIn K (.ref (He.ga K "_law_is_never")),
  decide (PySem.W.nsIn K mainGlobals "_law_is_never" = some (some (.ref (He.ga K "_law_is_never")))),
  Hd.codeB K (He.ga K "_law_is_earliest") "_law_is_earliest",
  PySem.W.keepIn K (.ref (He.ga K "_law_is_earliest")),
  decide (PySem.W.nsIn K mainGlobals "_law_is_earliest" = some (some (.ref (He.ga K "_law_is_earliest")))),
  Hd.codeB K (He.ga K "_law_is_answer") "_law_is_answer",
  PySem.W.keepIn K (.ref (He.ga K "_law_is_answer")),
  decide (PySem.W.nsIn K mainGlobals "_law_is_answer" = some (some (.ref (He.ga K "_law_is_answer")))),
  Hd.codeB K (He.ga K "_law_is_unknown") "_law_is_unknown",
  PySem.W.keepIn K (.ref (He.ga K "_law_is_unknown")),
  decide (PySem.W.nsIn K mainGlobals "_law_is_unknown" = some (some (.ref (He.ga K "_law_is_unknown")))),
  Hd.codeB K (He.ga K "law") "law",
  PySem.W.keepIn K (.ref (He.ga K "law")),
  decide (PySem.W.nsIn K mainGlobals "law" = some (some (.ref (He.ga K "law")))),
  Hd.codeB K (He.ma K (He.ga K "Book") "__init__") "Book.__init__",
  PySem.W.keepIn K (.ref (He.ma K (He.ga K "Book") "__init__")),
  Hd.codeB K (Hd.prF K (He.ga K "Book") "limits") "Book.limits",
  PySem.W.keepIn K (.ref (Hd.prF K (He.ga K "Book") "limits"))]
def hdEx3 (K : PySem.W.Frag) : List Bool := [decide (PySem.W.findIn K (.ref (He.ga K "Book")) "limits" = some (some (.ref (He.ma K (He.ga K "Book") "limits")))),
  decide (PySem.W.specialIn K (.ref (He.ma K (He.ga K "Book") "limits")) "__get__" = some (some (.builtin "property.__get__"))),
  decide (PySem.W.takesIn K (.ref (He.ma K (He.ga K "Book") "limits")) = some true),
  (match PySem.W.recIn K (He.ma K (He.ga K "Book") "limits") "property" with | some (.ref _ :: _) => true | _ => false),
  Hd.codeB K (He.ma K (He.ga K "WindowMeter") "__init__") "WindowMeter.__init__",
  PySem.W.keepIn K (.ref (He.ma K (He.ga K "WindowMeter") "__init__")),
  Hd.codeB K (He.ma K (He.ga K "WindowMeter") "sums_since") "WindowMeter.sums_since",
  PySem.W.keepIn K (.ref (He.ma K (He.ga K "WindowMeter") "sums_since")),
  decide (PySem.W.findIn K (.ref (He.ga K "WindowMeter")) "sums_since" = some (some (.ref (He.ma K (He.ga K "WindowMeter") "sums_since")))),
  PySem.W.isFn K (.ref (He.ma K (He.ga K "WindowMeter") "sums_since")),
  Hd.codeB K (He.ma K (He.ga K "WindowMeter") "room") "WindowMeter.room",
  PySem.W.keepIn K (.ref (He.ma K (He.ga K "WindowMeter") "room")),
  decide (PySem.W.findIn K (.ref (He.ga K "WindowMeter")) "room" = some (some (.ref (He.ma K (He.ga K "WindowMeter") "room")))),
  PySem.W.isFn K (.ref (He.ma K (He.ga K "WindowMeter") "room")),
  Hd.codeB K (He.ma K (He.ga K "WindowMeter") "earliest") "WindowMeter.earliest",
  PySem.W.keepIn K (.ref (He.ma K (He.ga K "WindowMeter") "earliest")),
  decide (PySem.W.findIn K (.ref (He.ga K "WindowMeter")) "earliest" = some (some (.ref (He.ma K (He.ga K "WindowMeter") "earliest")))),
  PySem.W.isFn K (.ref (He.ma K (He.ga K "WindowMeter") "earliest")),
  Hd.codeB K (He.ma K (He.ga K "WindowMeter") "let") "WindowMeter.let",
  PySem.W.keepIn K (.ref (He.ma K (He.ga K "WindowMeter") "let")),
  decide (PySem.W.findIn K (.ref (He.ga K "WindowMeter")) "let" = some (some (.ref (He.ma K (He.ga K "WindowMeter") "let")))),
  PySem.W.isFn K (.ref (He.ma K (He.ga K "WindowMeter") "let")),
  Hd.codeB K (He.ma K (He.ga K "SpanMeter") "__init__") "SpanMeter.__init__",
  PySem.W.keepIn K (.ref (He.ma K (He.ga K "SpanMeter") "__init__")),
  Hd.codeB K (He.ma K (He.ga K "SpanMeter") "used_in") "SpanMeter.used_in",
  PySem.W.keepIn K (.ref (He.ma K (He.ga K "SpanMeter") "used_in")),
  decide (PySem.W.findIn K (.ref (He.ga K "SpanMeter")) "used_in" = some (some (.ref (He.ma K (He.ga K "SpanMeter") "used_in")))),
  PySem.W.isFn K (.ref (He.ma K (He.ga K "SpanMeter") "used_in")),
  Hd.codeB K (He.ma K (He.ga K "SpanMeter") "room") "SpanMeter.room",
  PySem.W.keepIn K (.ref (He.ma K (He.ga K "SpanMeter") "room")),
  decide (PySem.W.findIn K (.ref (He.ga K "SpanMeter")) "room" = some (some (.ref (He.ma K (He.ga K "SpanMeter") "room")))),
  PySem.W.isFn K (.ref (He.ma K (He.ga K "SpanMeter") "room")),
  Hd.codeB K (He.ma K (He.ga K "SpanMeter") "earliest") "SpanMeter.earliest",
  PySem.W.keepIn K (.ref (He.ma K (He.ga K "SpanMeter") "earliest")),
  decide (PySem.W.findIn K (.ref (He.ga K "SpanMeter")) "earliest" = some (some (.ref (He.ma K (He.ga K "SpanMeter") "earliest")))),
  PySem.W.isFn K (.ref (He.ma K (He.ga K "SpanMeter") "earliest")),
  Hd.codeB K (He.ma K (He.ga K "SpanMeter") "let") "SpanMeter.let",
  PySem.W.keepIn K (.ref (He.ma K (He.ga K "SpanMeter") "let")),
  decide (PySem.W.findIn K (.ref (He.ga K "SpanMeter")) "let" = some (some (.ref (He.ma K (He.ga K "SpanMeter") "let")))),
  PySem.W.isFn K (.ref (He.ma K (He.ga K "SpanMeter") "let"))]
def hdEx4 (K : PySem.W.Frag) : List Bool := [Hd.codeB K (He.ma K (He.ga K "BucketMeter") "__init__") "BucketMeter.__init__",
  PySem.W.keepIn K (.ref (He.ma K (He.ga K "BucketMeter") "__init__")),
  Hd.codeB K (He.ma K (He.ga K "BucketMeter") "missing_at") "BucketMeter.missing_at",
  PySem.W.keepIn K (.ref (He.ma K (He.ga K "BucketMeter") "missing_at")),
  decide (PySem.W.findIn K (.ref (He.ga K "BucketMeter")) "missing_at" = some (some (.ref (He.ma K (He.ga K "BucketMeter") "missing_at")))),
  PySem.W.isFn K (.ref (He.ma K (He.ga K "BucketMeter") "missing_at")),
  Hd.codeB K (He.ma K (He.ga K "BucketMeter") "too_much") "BucketMeter.too_much",
  PySem.W.keepIn K (.ref (He.ma K (He.ga K "BucketMeter") "too_much")),
  decide (PySem.W.findIn K (.ref (He.ga K "BucketMeter")) "too_much" = some (some (.ref (He.ma K (He.ga K "BucketMeter") "too_much")))),
  PySem.W.isFn K (.ref (He.ma K (He.ga K "BucketMeter") "too_much")),
  Hd.codeB K (He.ma K (He.ga K "BucketMeter") "room") "BucketMeter.room",
  PySem.W.keepIn K (.ref (He.ma K (He.ga K "BucketMeter") "room")),
  decide (PySem.W.findIn K (.ref (He.ga K "BucketMeter")) "room" = some (some (.ref (He.ma K (He.ga K "BucketMeter") "room")))),
  PySem.W.isFn K (.ref (He.ma K (He.ga K "BucketMeter") "room")),
  Hd.codeB K (He.ma K (He.ga K "BucketMeter") "earliest") "BucketMeter.earliest",
  PySem.W.keepIn K (.ref (He.ma K (He.ga K "BucketMeter") "earliest")),
  decide (PySem.W.findIn K (.ref (He.ga K "BucketMeter")) "earliest" = some (some (.ref (He.ma K (He.ga K "BucketMeter") "earliest")))),
  PySem.W.isFn K (.ref (He.ma K (He.ga K "BucketMeter") "earliest")),
  Hd.codeB K (He.ma K (He.ga K "BucketMeter") "let") "BucketMeter.let",
  PySem.W.keepIn K (.ref (He.ma K (He.ga K "BucketMeter") "let")),
  decide (PySem.W.findIn K (.ref (He.ga K "BucketMeter")) "let" = some (some (.ref (He.ma K (He.ga K "BucketMeter") "let")))),
  PySem.W.isFn K (.ref (He.ma K (He.ga K "BucketMeter") "let")),
  Hd.codeB K (He.ma K (He.ga K "GapMeter") "__init__") "GapMeter.__init__",
  PySem.W.keepIn K (.ref (He.ma K (He.ga K "GapMeter") "__init__")),
  Hd.codeB K (He.ma K (He.ga K "GapMeter") "room") "GapMeter.room",
  PySem.W.keepIn K (.ref (He.ma K (He.ga K "GapMeter") "room")),
  decide (PySem.W.findIn K (.ref (He.ga K "GapMeter")) "room" = some (some (.ref (He.ma K (He.ga K "GapMeter") "room")))),
  PySem.W.isFn K (.ref (He.ma K (He.ga K "GapMeter") "room")),
  Hd.codeB K (He.ma K (He.ga K "GapMeter") "earliest") "GapMeter.earliest",
  PySem.W.keepIn K (.ref (He.ma K (He.ga K "GapMeter") "earliest")),
  decide (PySem.W.findIn K (.ref (He.ga K "GapMeter")) "earliest" = some (some (.ref (He.ma K (He.ga K "GapMeter") "earliest")))),
  PySem.W.isFn K (.ref (He.ma K (He.ga K "GapMeter") "earliest")),
  Hd.codeB K (He.ma K (He.ga K "GapMeter") "let") "GapMeter.let",
  PySem.W.keepIn K (.ref (He.ma K (He.ga K "GapMeter") "let")),
  decide (PySem.W.findIn K (.ref (He.ga K "GapMeter")) "let" = some (some (.ref (He.ma K (He.ga K "GapMeter") "let")))),
  PySem.W.isFn K (.ref (He.ma K (He.ga K "GapMeter") "let")),
  Hd.codeB K (He.ma K (He.ga K "HeldMeter") "__init__") "HeldMeter.__init__",
  PySem.W.keepIn K (.ref (He.ma K (He.ga K "HeldMeter") "__init__")),
  Hd.codeB K (He.ma K (He.ga K "HeldMeter") "room") "HeldMeter.room",
  PySem.W.keepIn K (.ref (He.ma K (He.ga K "HeldMeter") "room"))]
def hdEx5 (K : PySem.W.Frag) : List Bool := [decide (PySem.W.findIn K (.ref (He.ga K "HeldMeter")) "room" = some (some (.ref (He.ma K (He.ga K "HeldMeter") "room")))),
  PySem.W.isFn K (.ref (He.ma K (He.ga K "HeldMeter") "room")),
  Hd.codeB K (He.ma K (He.ga K "HeldMeter") "earliest") "HeldMeter.earliest",
  PySem.W.keepIn K (.ref (He.ma K (He.ga K "HeldMeter") "earliest")),
  decide (PySem.W.findIn K (.ref (He.ga K "HeldMeter")) "earliest" = some (some (.ref (He.ma K (He.ga K "HeldMeter") "earliest")))),
  PySem.W.isFn K (.ref (He.ma K (He.ga K "HeldMeter") "earliest")),
  Hd.codeB K (He.ma K (He.ga K "HeldMeter") "let") "HeldMeter.let",
  PySem.W.keepIn K (.ref (He.ma K (He.ga K "HeldMeter") "let")),
  decide (PySem.W.findIn K (.ref (He.ga K "HeldMeter")) "let" = some (some (.ref (He.ma K (He.ga K "HeldMeter") "let")))),
  PySem.W.isFn K (.ref (He.ma K (He.ga K "HeldMeter") "let")),
  Hd.codeB K (He.ma K (He.ga K "PoolMeter") "__init__") "PoolMeter.__init__",
  PySem.W.keepIn K (.ref (He.ma K (He.ga K "PoolMeter") "__init__")),
  Hd.codeB K (He.ma K (He.ga K "PoolMeter") "borrowed") "PoolMeter.borrowed",
  PySem.W.keepIn K (.ref (He.ma K (He.ga K "PoolMeter") "borrowed")),
  decide (PySem.W.findIn K (.ref (He.ga K "PoolMeter")) "borrowed" = some (some (.ref (He.ma K (He.ga K "PoolMeter") "borrowed")))),
  PySem.W.isFn K (.ref (He.ma K (He.ga K "PoolMeter") "borrowed")),
  Hd.codeB K (He.ma K (He.ga K "PoolMeter") "room") "PoolMeter.room",
  PySem.W.keepIn K (.ref (He.ma K (He.ga K "PoolMeter") "room")),
  decide (PySem.W.findIn K (.ref (He.ga K "PoolMeter")) "room" = some (some (.ref (He.ma K (He.ga K "PoolMeter") "room")))),
  PySem.W.isFn K (.ref (He.ma K (He.ga K "PoolMeter") "room")),
  Hd.codeB K (He.ma K (He.ga K "PoolMeter") "earliest") "PoolMeter.earliest",
  PySem.W.keepIn K (.ref (He.ma K (He.ga K "PoolMeter") "earliest")),
  decide (PySem.W.findIn K (.ref (He.ga K "PoolMeter")) "earliest" = some (some (.ref (He.ma K (He.ga K "PoolMeter") "earliest")))),
  PySem.W.isFn K (.ref (He.ma K (He.ga K "PoolMeter") "earliest")),
  Hd.codeB K (He.ma K (He.ga K "PoolMeter") "let") "PoolMeter.let",
  PySem.W.keepIn K (.ref (He.ma K (He.ga K "PoolMeter") "let")),
  decide (PySem.W.findIn K (.ref (He.ga K "PoolMeter")) "let" = some (some (.ref (He.ma K (He.ga K "PoolMeter") "let")))),
  PySem.W.isFn K (.ref (He.ma K (He.ga K "PoolMeter") "let")),
  Hd.codeB K (He.ma K (He.ga K "Answer") "__init__") "Answer.__init__",
  PySem.W.keepIn K (.ref (He.ma K (He.ga K "Answer") "__init__")),
  Hd.codeB K (He.ma K (He.ga K "Answer") "parts") "Answer.parts",
  PySem.W.keepIn K (.ref (He.ma K (He.ga K "Answer") "parts")),
  decide (PySem.W.findIn K (.ref (He.ga K "Answer")) "parts" = some (some (.ref (He.ma K (He.ga K "Answer") "parts")))),
  PySem.W.isFn K (.ref (He.ma K (He.ga K "Answer") "parts")),
  Hd.codeB K (He.ma K (He.ga K "Keeper") "__init__") "Keeper.__init__",
  PySem.W.keepIn K (.ref (He.ma K (He.ga K "Keeper") "__init__")),
  Hd.codeB K (He.ma K (He.ga K "Keeper") "_check_next") "Keeper._check_next",
  PySem.W.keepIn K (.ref (He.ma K (He.ga K "Keeper") "_check_next")),
  decide (PySem.W.findIn K (.ref (He.ga K "Keeper")) "_check_next" = some (some (.ref (He.ma K (He.ga K "Keeper") "_check_next")))),
  PySem.W.isFn K (.ref (He.ma K (He.ga K "Keeper") "_check_next"))]
def hdEx6 (K : PySem.W.Frag) : List Bool := [Hd.codeB K (He.ma K (He.ga K "Keeper") "_check_known") "Keeper._check_known",
  PySem.W.keepIn K (.ref (He.ma K (He.ga K "Keeper") "_check_known")),
  decide (PySem.W.findIn K (.ref (He.ga K "Keeper")) "_check_known" = some (some (.ref (He.ma K (He.ga K "Keeper") "_check_known")))),
  PySem.W.isFn K (.ref (He.ma K (He.ga K "Keeper") "_check_known")),
  Hd.codeB K (He.ma K (He.ga K "Keeper") "_let") "Keeper._let",
  PySem.W.keepIn K (.ref (He.ma K (He.ga K "Keeper") "_let")),
  decide (PySem.W.findIn K (.ref (He.ga K "Keeper")) "_let" = some (some (.ref (He.ma K (He.ga K "Keeper") "_let")))),
  PySem.W.isFn K (.ref (He.ma K (He.ga K "Keeper") "_let")),
  Hd.codeB K (He.ma K (He.ga K "Keeper") "_earliest") "Keeper._earliest",
  PySem.W.keepIn K (.ref (He.ma K (He.ga K "Keeper") "_earliest")),
  decide (PySem.W.findIn K (.ref (He.ga K "Keeper")) "_earliest" = some (some (.ref (He.ma K (He.ga K "Keeper") "_earliest")))),
  PySem.W.isFn K (.ref (He.ma K (He.ga K "Keeper") "_earliest")),
  Hd.codeB K (He.ma K (He.ga K "Keeper") "ask") "Keeper.ask",
  PySem.W.keepIn K (.ref (He.ma K (He.ga K "Keeper") "ask")),
  decide (PySem.W.findIn K (.ref (He.ga K "Keeper")) "ask" = some (some (.ref (He.ma K (He.ga K "Keeper") "ask")))),
  PySem.W.isFn K (.ref (He.ma K (He.ga K "Keeper") "ask")),
  Hd.codeB K (He.ma K (He.ga K "Keeper") "knows") "Keeper.knows",
  PySem.W.keepIn K (.ref (He.ma K (He.ga K "Keeper") "knows")),
  decide (PySem.W.findIn K (.ref (He.ga K "Keeper")) "knows" = some (some (.ref (He.ma K (He.ga K "Keeper") "knows")))),
  PySem.W.isFn K (.ref (He.ma K (He.ga K "Keeper") "knows")),
  Hd.codeB K (He.ma K (He.ga K "Keeper") "answer_of") "Keeper.answer_of",
  PySem.W.keepIn K (.ref (He.ma K (He.ga K "Keeper") "answer_of")),
  decide (PySem.W.findIn K (.ref (He.ga K "Keeper")) "answer_of" = some (some (.ref (He.ma K (He.ga K "Keeper") "answer_of")))),
  PySem.W.isFn K (.ref (He.ma K (He.ga K "Keeper") "answer_of")),
  decide (PySem.W.nsIn K mainGlobals "abs" = some none),
  decide (PySem.W.nsIn K mainGlobals "all" = some none),
  decide (PySem.W.nsIn K mainGlobals "bool" = some none),
  decide (PySem.W.nsIn K mainGlobals "int" = some none),
  decide (PySem.W.nsIn K mainGlobals "isinstance" = some none),
  decide (PySem.W.nsIn K mainGlobals "len" = some none),
  decide (PySem.W.nsIn K mainGlobals "list" = some none),
  decide (PySem.W.nsIn K mainGlobals "max" = some none),
  decide (PySem.W.nsIn K mainGlobals "min" = some none),
  decide (PySem.W.nsIn K mainGlobals "range" = some none),
  decide (PySem.W.nsIn K mainGlobals "set" = some none),
  decide (PySem.W.nsIn K mainGlobals "sorted" = some none),
  decide (PySem.W.nsIn K mainGlobals "sum" = some none),
  decide (PySem.W.nsIn K mainGlobals "tuple" = some none),
  decide (PySem.W.nsIn K mainGlobals "zip" = some none),
  (He.Fa.str "LETTERS" "abcdefghijklmnopqrstuvwxyz0123456789").ok K]
def hdEx7 (K : PySem.W.Frag) : List Bool := [(He.Fa.int "MOST_MOMENT" (1000000000)).ok K,
  (He.Fa.int "MOST_NUMBER" (1000000)).ok K,
  (He.Fa.int "MOST_KEYS" (2000)).ok K,
  decide (PySem.W.subIn K (.ref (He.ga K "KeyKnown")) (.type "BaseException") = some true),
  PySem.W.isClsIn K (He.ga K "KeyKnown"),
  decide (PySem.W.typeIn K (.ref (He.ga K "KeyKnown")) = some (.type "type")),
  decide (PySem.W.subIn K (.ref (He.ga K "KeyKnown")) (.ref (He.ga K "KeyKnown")) = some true),
  decide (PySem.W.findIn K (.ref (He.ga K "KeyKnown")) "__getattribute__" = some (some (.builtin "BaseException.__getattribute__"))),
  decide (PySem.W.findIn K (.ref (He.ga K "KeyKnown")) "__getattr__" = some none),
  PySem.W.hasDictIn K (He.ga K "KeyKnown"),
  decide (PySem.W.nsIn K mainGlobals "KeyKnown" = some (some (.ref (He.ga K "KeyKnown")))),
  Hd.clsB K (He.ga K "KeyKnown") "KeyKnown",
  decide (PySem.W.findIn K (.ref (He.ga K "KeyKnown")) "__setattr__" = some (some (.builtin "object.__setattr__"))),
  decide (PySem.W.findIn K (.ref (He.ga K "KeyKnown")) "key" = some none),
  decide (PySem.W.findIn K (.ref (He.ga K "KeyKnown")) "__init__" = some (some (.ref (He.ma K (He.ga K "KeyKnown") "__init__")))),
  decide (PySem.W.typeIn K (.ref (He.ma K (He.ga K "KeyKnown") "__init__")) = some (.type "function")),
  PySem.W.keepIn K (.ref (He.ga K "KeyKnown")),
  decide (PySem.W.subIn K (.ref (He.ga K "KeyKnown")) (.type "ValueError") = some true),
  decide (PySem.W.mroIn K (He.ga K "KeyKnown") (.ref (He.ga K "KeyKnown")) = some true),
  decide (PySem.W.ks_superIn K (He.ga K "KeyKnown") (He.ga K "KeyKnown") "__init__" = some (some (.builtin "ValueError.__init__"))),
  decide (PySem.W.nsIn K cStatics "thirdparty.any" = some none),
  decide (PySem.W.nsIn K mainGlobals "super" = some none),
  Hd.errB K (He.ma K (He.ga K "KeyKnown") "__init__") "KeyKnown.__init__" file (He.ga K "KeyKnown"),
  decide (PySem.W.findIn K (.ref (He.ga K "KeyKnown")) "__class__" = some (some (.builtin "object.__class__"))),
  decide (PySem.W.specialIn K (.builtin "object.__class__") "__get__" = some (some (.builtin "getset_descriptor.__get__"))),
  decide (PySem.W.takesIn K (.builtin "object.__class__") = some true),
  decide (PySem.W.mroIn K (He.ga K "KeyKnown") (.type "object") = some true),
  decide (PySem.W.subIn K (.ref (He.ga K "UnknownKey")) (.type "BaseException") = some true),
  PySem.W.isClsIn K (He.ga K "UnknownKey"),
  decide (PySem.W.typeIn K (.ref (He.ga K "UnknownKey")) = some (.type "type")),
  decide (PySem.W.subIn K (.ref (He.ga K "UnknownKey")) (.ref (He.ga K "UnknownKey")) = some true),
  decide (PySem.W.findIn K (.ref (He.ga K "UnknownKey")) "__getattribute__" = some (some (.builtin "BaseException.__getattribute__"))),
  decide (PySem.W.findIn K (.ref (He.ga K "UnknownKey")) "__getattr__" = some none),
  PySem.W.hasDictIn K (He.ga K "UnknownKey"),
  decide (PySem.W.nsIn K mainGlobals "UnknownKey" = some (some (.ref (He.ga K "UnknownKey")))),
  Hd.clsB K (He.ga K "UnknownKey") "UnknownKey",
  decide (PySem.W.findIn K (.ref (He.ga K "UnknownKey")) "__setattr__" = some (some (.builtin "object.__setattr__"))),
  decide (PySem.W.findIn K (.ref (He.ga K "UnknownKey")) "key" = some none),
  decide (PySem.W.findIn K (.ref (He.ga K "UnknownKey")) "__init__" = some (some (.ref (He.ma K (He.ga K "UnknownKey") "__init__")))),
  decide (PySem.W.typeIn K (.ref (He.ma K (He.ga K "UnknownKey") "__init__")) = some (.type "function"))]
def hdEx8 (K : PySem.W.Frag) : List Bool := [PySem.W.keepIn K (.ref (He.ga K "UnknownKey")),
  decide (PySem.W.subIn K (.ref (He.ga K "UnknownKey")) (.type "ValueError") = some true),
  decide (PySem.W.mroIn K (He.ga K "UnknownKey") (.ref (He.ga K "UnknownKey")) = some true),
  decide (PySem.W.ks_superIn K (He.ga K "UnknownKey") (He.ga K "UnknownKey") "__init__" = some (some (.builtin "ValueError.__init__"))),
  Hd.errB K (He.ma K (He.ga K "UnknownKey") "__init__") "UnknownKey.__init__" file (He.ga K "UnknownKey"),
  decide (PySem.W.findIn K (.ref (He.ga K "UnknownKey")) "__class__" = some (some (.builtin "object.__class__"))),
  decide (PySem.W.mroIn K (He.ga K "UnknownKey") (.type "object") = some true),
  decide (PySem.W.subIn K (.ref (He.ga K "EarlierMoment")) (.type "BaseException") = some true),
  PySem.W.isClsIn K (He.ga K "EarlierMoment"),
  decide (PySem.W.typeIn K (.ref (He.ga K "EarlierMoment")) = some (.type "type")),
  decide (PySem.W.subIn K (.ref (He.ga K "EarlierMoment")) (.ref (He.ga K "EarlierMoment")) = some true),
  decide (PySem.W.findIn K (.ref (He.ga K "EarlierMoment")) "__getattribute__" = some (some (.builtin "BaseException.__getattribute__"))),
  decide (PySem.W.findIn K (.ref (He.ga K "EarlierMoment")) "__getattr__" = some none),
  PySem.W.hasDictIn K (He.ga K "EarlierMoment"),
  decide (PySem.W.nsIn K mainGlobals "EarlierMoment" = some (some (.ref (He.ga K "EarlierMoment")))),
  Hd.clsB K (He.ga K "EarlierMoment") "EarlierMoment",
  decide (PySem.W.findIn K (.ref (He.ga K "EarlierMoment")) "__setattr__" = some (some (.builtin "object.__setattr__"))),
  decide (PySem.W.findIn K (.ref (He.ga K "EarlierMoment")) "moment" = some none),
  decide (PySem.W.findIn K (.ref (He.ga K "EarlierMoment")) "__init__" = some (some (.ref (He.ma K (He.ga K "EarlierMoment") "__init__")))),
  decide (PySem.W.typeIn K (.ref (He.ma K (He.ga K "EarlierMoment") "__init__")) = some (.type "function")),
  PySem.W.keepIn K (.ref (He.ga K "EarlierMoment")),
  decide (PySem.W.subIn K (.ref (He.ga K "EarlierMoment")) (.type "ValueError") = some true),
  decide (PySem.W.mroIn K (He.ga K "EarlierMoment") (.ref (He.ga K "EarlierMoment")) = some true),
  decide (PySem.W.ks_superIn K (He.ga K "EarlierMoment") (He.ga K "EarlierMoment") "__init__" = some (some (.builtin "ValueError.__init__"))),
  Hd.errB K (He.ma K (He.ga K "EarlierMoment") "__init__") "EarlierMoment.__init__" file (He.ga K "EarlierMoment"),
  decide (PySem.W.findIn K (.ref (He.ga K "EarlierMoment")) "__class__" = some (some (.builtin "object.__class__"))),
  decide (PySem.W.mroIn K (He.ga K "EarlierMoment") (.type "object") = some true),
  PySem.W.plainGet K (He.ga K "Book") Str.empty,
  PySem.W.hasDictIn K (He.ga K "Book"),
  PySem.W.plainOver K (He.ga K "Book"),
  decide (PySem.W.findIn K (.ref (He.ga K "Book")) "__setattr__" = some (some (.builtin "object.__setattr__"))),
  decide (PySem.W.nsIn K mainGlobals "Book" = some (some (.ref (He.ga K "Book")))),
  PySem.W.makesIn K (He.ga K "Book"),
  decide (PySem.W.findIn K (.ref (He.ga K "Book")) "__init__" = some (some (.ref (He.ma K (He.ga K "Book") "__init__")))),
  PySem.W.isFn K (.ref (He.ma K (He.ga K "Book") "__init__")),
  PySem.W.keepIn K (.ref (He.ga K "Book")),
  decide (PySem.W.findIn K (.ref (He.ga K "Book")) "_limits" = some none),
  PySem.W.plainGet K (He.ga K "WindowMeter") Str.empty,
  PySem.W.hasDictIn K (He.ga K "WindowMeter"),
  PySem.W.plainOver K (He.ga K "WindowMeter")]
def hdEx9 (K : PySem.W.Frag) : List Bool := [decide (PySem.W.findIn K (.ref (He.ga K "WindowMeter")) "__setattr__" = some (some (.builtin "object.__setattr__"))),
  decide (PySem.W.nsIn K mainGlobals "WindowMeter" = some (some (.ref (He.ga K "WindowMeter")))),
  PySem.W.makesIn K (He.ga K "WindowMeter"),
  decide (PySem.W.findIn K (.ref (He.ga K "WindowMeter")) "__init__" = some (some (.ref (He.ma K (He.ga K "WindowMeter") "__init__")))),
  PySem.W.isFn K (.ref (He.ma K (He.ga K "WindowMeter") "__init__")),
  PySem.W.keepIn K (.ref (He.ga K "WindowMeter")),
  decide (PySem.W.findIn K (.ref (He.ga K "WindowMeter")) "limit" = some none),
  decide (PySem.W.findIn K (.ref (He.ga K "WindowMeter")) "_sums" = some none),
  decide (PySem.W.findIn K (.ref (He.ga K "WindowMeter")) "_most" = some none),
  decide (PySem.W.findIn K (.ref (He.ga K "WindowMeter")) "_length" = some none),
  PySem.W.plainGet K (He.ga K "SpanMeter") Str.empty,
  PySem.W.hasDictIn K (He.ga K "SpanMeter"),
  PySem.W.plainOver K (He.ga K "SpanMeter"),
  decide (PySem.W.findIn K (.ref (He.ga K "SpanMeter")) "__setattr__" = some (some (.builtin "object.__setattr__"))),
  decide (PySem.W.nsIn K mainGlobals "SpanMeter" = some (some (.ref (He.ga K "SpanMeter")))),
  PySem.W.makesIn K (He.ga K "SpanMeter"),
  decide (PySem.W.findIn K (.ref (He.ga K "SpanMeter")) "__init__" = some (some (.ref (He.ma K (He.ga K "SpanMeter") "__init__")))),
  PySem.W.isFn K (.ref (He.ma K (He.ga K "SpanMeter") "__init__")),
  PySem.W.keepIn K (.ref (He.ga K "SpanMeter")),
  decide (PySem.W.findIn K (.ref (He.ga K "SpanMeter")) "limit" = some none),
  decide (PySem.W.findIn K (.ref (He.ga K "SpanMeter")) "_span" = some none),
  decide (PySem.W.findIn K (.ref (He.ga K "SpanMeter")) "_used" = some none),
  decide (PySem.W.findIn K (.ref (He.ga K "SpanMeter")) "_most" = some none),
  decide (PySem.W.findIn K (.ref (He.ga K "SpanMeter")) "_length" = some none),
  PySem.W.plainGet K (He.ga K "BucketMeter") Str.empty,
  PySem.W.hasDictIn K (He.ga K "BucketMeter"),
  PySem.W.plainOver K (He.ga K "BucketMeter"),
  decide (PySem.W.findIn K (.ref (He.ga K "BucketMeter")) "__setattr__" = some (some (.builtin "object.__setattr__"))),
  decide (PySem.W.nsIn K mainGlobals "BucketMeter" = some (some (.ref (He.ga K "BucketMeter")))),
  PySem.W.makesIn K (He.ga K "BucketMeter"),
  decide (PySem.W.findIn K (.ref (He.ga K "BucketMeter")) "__init__" = some (some (.ref (He.ma K (He.ga K "BucketMeter") "__init__")))),
  PySem.W.isFn K (.ref (He.ma K (He.ga K "BucketMeter") "__init__")),
  PySem.W.keepIn K (.ref (He.ga K "BucketMeter")),
  decide (PySem.W.findIn K (.ref (He.ga K "BucketMeter")) "limit" = some none),
  decide (PySem.W.findIn K (.ref (He.ga K "BucketMeter")) "_missing" = some none),
  decide (PySem.W.findIn K (.ref (He.ga K "BucketMeter")) "_moment" = some none),
  decide (PySem.W.findIn K (.ref (He.ga K "BucketMeter")) "_size" = some none),
  decide (PySem.W.findIn K (.ref (He.ga K "BucketMeter")) "_every" = some none),
  PySem.W.plainGet K (He.ga K "GapMeter") Str.empty,
  PySem.W.hasDictIn K (He.ga K "GapMeter")]
def hdEx10 (K : PySem.W.Frag) : List Bool := [PySem.W.plainOver K (He.ga K "GapMeter"),
  decide (PySem.W.findIn K (.ref (He.ga K "GapMeter")) "__setattr__" = some (some (.builtin "object.__setattr__"))),
  decide (PySem.W.nsIn K mainGlobals "GapMeter" = some (some (.ref (He.ga K "GapMeter")))),
  PySem.W.makesIn K (He.ga K "GapMeter"),
  decide (PySem.W.findIn K (.ref (He.ga K "GapMeter")) "__init__" = some (some (.ref (He.ma K (He.ga K "GapMeter") "__init__")))),
  PySem.W.isFn K (.ref (He.ma K (He.ga K "GapMeter") "__init__")),
  PySem.W.keepIn K (.ref (He.ga K "GapMeter")),
  decide (PySem.W.findIn K (.ref (He.ga K "GapMeter")) "limit" = some none),
  decide (PySem.W.findIn K (.ref (He.ga K "GapMeter")) "_ticks" = some none),
  decide (PySem.W.findIn K (.ref (He.ga K "GapMeter")) "_last" = some none),
  PySem.W.plainGet K (He.ga K "HeldMeter") Str.empty,
  PySem.W.hasDictIn K (He.ga K "HeldMeter"),
  PySem.W.plainOver K (He.ga K "HeldMeter"),
  decide (PySem.W.findIn K (.ref (He.ga K "HeldMeter")) "__setattr__" = some (some (.builtin "object.__setattr__"))),
  decide (PySem.W.nsIn K mainGlobals "HeldMeter" = some (some (.ref (He.ga K "HeldMeter")))),
  PySem.W.makesIn K (He.ga K "HeldMeter"),
  decide (PySem.W.findIn K (.ref (He.ga K "HeldMeter")) "__init__" = some (some (.ref (He.ma K (He.ga K "HeldMeter") "__init__")))),
  PySem.W.isFn K (.ref (He.ma K (He.ga K "HeldMeter") "__init__")),
  PySem.W.keepIn K (.ref (He.ga K "HeldMeter")),
  decide (PySem.W.findIn K (.ref (He.ga K "HeldMeter")) "limit" = some none),
  decide (PySem.W.findIn K (.ref (He.ga K "HeldMeter")) "_most" = some none),
  decide (PySem.W.findIn K (.ref (He.ga K "HeldMeter")) "_costs" = some none),
  decide (PySem.W.findIn K (.ref (He.ga K "HeldMeter")) "_used" = some none),
  PySem.W.plainGet K (He.ga K "PoolMeter") Str.empty,
  PySem.W.hasDictIn K (He.ga K "PoolMeter"),
  PySem.W.plainOver K (He.ga K "PoolMeter"),
  decide (PySem.W.findIn K (.ref (He.ga K "PoolMeter")) "__setattr__" = some (some (.builtin "object.__setattr__"))),
  decide (PySem.W.nsIn K mainGlobals "PoolMeter" = some (some (.ref (He.ga K "PoolMeter")))),
  PySem.W.makesIn K (He.ga K "PoolMeter"),
  decide (PySem.W.findIn K (.ref (He.ga K "PoolMeter")) "__init__" = some (some (.ref (He.ma K (He.ga K "PoolMeter") "__init__")))),
  PySem.W.isFn K (.ref (He.ma K (He.ga K "PoolMeter") "__init__")),
  PySem.W.keepIn K (.ref (He.ga K "PoolMeter")),
  decide (PySem.W.findIn K (.ref (He.ga K "PoolMeter")) "limit" = some none),
  decide (PySem.W.findIn K (.ref (He.ga K "PoolMeter")) "_costs" = some none),
  decide (PySem.W.findIn K (.ref (He.ga K "PoolMeter")) "_uses" = some none),
  PySem.W.plainGet K (He.ga K "Answer") Str.empty,
  PySem.W.hasDictIn K (He.ga K "Answer"),
  PySem.W.plainOver K (He.ga K "Answer"),
  decide (PySem.W.findIn K (.ref (He.ga K "Answer")) "__setattr__" = some (some (.builtin "object.__setattr__"))),
  decide (PySem.W.nsIn K mainGlobals "Answer" = some (some (.ref (He.ga K "Answer"))))]
def hdEx11 (K : PySem.W.Frag) : List Bool := [PySem.W.makesIn K (He.ga K "Answer"),
  decide (PySem.W.findIn K (.ref (He.ga K "Answer")) "__init__" = some (some (.ref (He.ma K (He.ga K "Answer") "__init__")))),
  PySem.W.isFn K (.ref (He.ma K (He.ga K "Answer") "__init__")),
  PySem.W.keepIn K (.ref (He.ga K "Answer")),
  decide (PySem.W.findIn K (.ref (He.ga K "Answer")) "key" = some none),
  decide (PySem.W.findIn K (.ref (He.ga K "Answer")) "moment" = some none),
  decide (PySem.W.findIn K (.ref (He.ga K "Answer")) "lacking" = some none),
  decide (PySem.W.findIn K (.ref (He.ga K "Answer")) "earliest" = some none),
  decide (PySem.W.findIn K (.ref (He.ga K "Answer")) "is_let" = some none),
  decide (PySem.W.findIn K (.ref (He.ga K "Answer")) "__class__" = some (some (.builtin "object.__class__"))),
  decide (PySem.W.mroIn K (He.ga K "Answer") (.type "object") = some true),
  decide (PySem.W.kitOne K (.ref (He.ga K "Answer")) (.ref (He.ga K "Answer")) = some true),
  PySem.W.plainGet K (He.ga K "Keeper") Str.empty,
  PySem.W.hasDictIn K (He.ga K "Keeper"),
  PySem.W.plainOver K (He.ga K "Keeper"),
  decide (PySem.W.findIn K (.ref (He.ga K "Keeper")) "__setattr__" = some (some (.builtin "object.__setattr__"))),
  decide (PySem.W.nsIn K mainGlobals "Keeper" = some (some (.ref (He.ga K "Keeper")))),
  PySem.W.makesIn K (He.ga K "Keeper"),
  decide (PySem.W.findIn K (.ref (He.ga K "Keeper")) "__init__" = some (some (.ref (He.ma K (He.ga K "Keeper") "__init__")))),
  PySem.W.isFn K (.ref (He.ma K (He.ga K "Keeper") "__init__")),
  PySem.W.keepIn K (.ref (He.ga K "Keeper")),
  decide (PySem.W.findIn K (.ref (He.ga K "Keeper")) "book" = some none),
  decide (PySem.W.findIn K (.ref (He.ga K "Keeper")) "moment" = some none),
  decide (PySem.W.findIn K (.ref (He.ga K "Keeper")) "_meters" = some none),
  decide (PySem.W.findIn K (.ref (He.ga K "Keeper")) "_asked" = some none),
  decide (PySem.W.findIn K (.ref (He.ga K "Keeper")) "_released" = some none),
  decide (PySem.W.subIn K (.ref (He.ga K "InvalidName")) (.type "BaseException") = some true),
  PySem.W.isClsIn K (He.ga K "InvalidName"),
  decide (PySem.W.typeIn K (.ref (He.ga K "InvalidName")) = some (.type "type")),
  decide (PySem.W.subIn K (.ref (He.ga K "InvalidName")) (.ref (He.ga K "InvalidName")) = some true),
  decide (PySem.W.nsIn K mainGlobals "InvalidName" = some (some (.ref (He.ga K "InvalidName")))),
  PySem.W.excIn K (He.ga K "InvalidName") [.type "ValueError", .type "Exception", .type "BaseException", .type "object"] "ValueError.__new__",
  PySem.W.keepIn K (.ref (He.ga K "InvalidName")),
  decide (PySem.W.subIn K (.ref (He.ga K "InvalidRequest")) (.type "BaseException") = some true),
  PySem.W.isClsIn K (He.ga K "InvalidRequest"),
  decide (PySem.W.typeIn K (.ref (He.ga K "InvalidRequest")) = some (.type "type")),
  decide (PySem.W.subIn K (.ref (He.ga K "InvalidRequest")) (.ref (He.ga K "InvalidRequest")) = some true),
  decide (PySem.W.nsIn K mainGlobals "InvalidRequest" = some (some (.ref (He.ga K "InvalidRequest")))),
  PySem.W.excIn K (He.ga K "InvalidRequest") [.type "ValueError", .type "Exception", .type "BaseException", .type "object"] "ValueError.__new__",
  PySem.W.keepIn K (.ref (He.ga K "InvalidRequest"))]
def hdEx12 (K : PySem.W.Frag) : List Bool := [decide (PySem.W.subIn K (.ref (He.ga K "InvalidLimit")) (.type "BaseException") = some true),
  PySem.W.isClsIn K (He.ga K "InvalidLimit"),
  decide (PySem.W.typeIn K (.ref (He.ga K "InvalidLimit")) = some (.type "type")),
  decide (PySem.W.subIn K (.ref (He.ga K "InvalidLimit")) (.ref (He.ga K "InvalidLimit")) = some true),
  decide (PySem.W.nsIn K mainGlobals "InvalidLimit" = some (some (.ref (He.ga K "InvalidLimit")))),
  PySem.W.excIn K (He.ga K "InvalidLimit") [.type "ValueError", .type "Exception", .type "BaseException", .type "object"] "ValueError.__new__",
  PySem.W.keepIn K (.ref (He.ga K "InvalidLimit")),
  decide (PySem.W.subIn K (.ref (He.ga K "InvalidBook")) (.type "BaseException") = some true),
  PySem.W.isClsIn K (He.ga K "InvalidBook"),
  decide (PySem.W.typeIn K (.ref (He.ga K "InvalidBook")) = some (.type "type")),
  decide (PySem.W.subIn K (.ref (He.ga K "InvalidBook")) (.ref (He.ga K "InvalidBook")) = some true),
  decide (PySem.W.nsIn K mainGlobals "InvalidBook" = some (some (.ref (He.ga K "InvalidBook")))),
  PySem.W.excIn K (He.ga K "InvalidBook") [.type "ValueError", .type "Exception", .type "BaseException", .type "object"] "ValueError.__new__",
  PySem.W.keepIn K (.ref (He.ga K "InvalidBook")),
  decide (PySem.W.subIn K (.ref (He.ga K "TooLarge")) (.type "BaseException") = some true),
  PySem.W.isClsIn K (He.ga K "TooLarge"),
  decide (PySem.W.typeIn K (.ref (He.ga K "TooLarge")) = some (.type "type")),
  decide (PySem.W.subIn K (.ref (He.ga K "TooLarge")) (.ref (He.ga K "TooLarge")) = some true),
  decide (PySem.W.nsIn K mainGlobals "TooLarge" = some (some (.ref (He.ga K "TooLarge")))),
  PySem.W.excIn K (He.ga K "TooLarge") [.type "ValueError", .type "Exception", .type "BaseException", .type "object"] "ValueError.__new__",
  PySem.W.keepIn K (.ref (He.ga K "TooLarge"))]
def hdEx (K : PySem.W.Frag) : List (List Bool) := [hdEx0 K, hdEx1 K, hdEx2 K, hdEx3 K, hdEx4 K, hdEx5 K, hdEx6 K, hdEx7 K, hdEx8 K, hdEx9 K, hdEx10 K, hdEx11 K, hdEx12 K]
def hdFn0 : List Hd.DefO := [Hd.mkO (fun K => He.ga K "is_name") "is_name" "is_name" s_is_name,
  Hd.mkO (fun K => He.ga K "is_key") "is_key" "is_key" s_is_key,
  Hd.mkO (fun K => He.ga K "check_request") "check_request" "check_request" s_check_request,
  Hd.mkO (fun K => He.ga K "check_moment") "check_moment" "check_moment" s_check_moment,
  Hd.mkO (fun K => He.ga K "ascends") "ascends" "ascends" s_ascends,
  Hd.mkO (fun K => He.ga K "check_names") "check_names" "check_names" s_check_names,
  Hd.mkO (fun K => He.ga K "are_shares") "are_shares" "are_shares" s_are_shares,
  Hd.mkO (fun K => He.ga K "has_form") "has_form" "has_form" s_has_form,
  Hd.mkO (fun K => He.ga K "check_pool") "check_pool" "check_pool" s_check_pool,
  Hd.mkO (fun K => He.ga K "check_numbers") "check_numbers" "check_numbers" s_check_numbers,
  Hd.mkO (fun K => He.ga K "check_limit") "check_limit" "check_limit" s_check_limit,
  Hd.mkO (fun K => He.ga K "looks_at") "looks_at" "looks_at" s_looks_at,
  Hd.mkO (fun K => He.ga K "first_of") "first_of" "first_of" s_first_of,
  Hd.mkO (fun K => He.ga K "common_of") "common_of" "common_of" s_common_of,
  Hd.mkO (fun K => He.ga K "share_for") "share_for" "share_for" s_share_for,
  Hd.mkO (fun K => He.ga K "meter_for") "meter_for" "meter_for" s_meter_for,
  Hd.mkO (fun K => He.ga K "_law_row") "_law_row" "_law_row" s__law_row,
  Hd.mkO (fun K => He.ga K "_law_numbers") "_law_numbers" "_law_numbers" s__law_numbers,
  Hd.mkO (fun K => He.ga K "_law_is_integer") "_law_is_integer" "_law_is_integer" s__law_is_integer,
  Hd.mkO (fun K => He.ga K "_law_names") "_law_names" "_law_names" s__law_names,
  Hd.mkO (fun K => He.ga K "_law_keys") "_law_keys" "_law_keys" s__law_keys,
  Hd.mkO (fun K => He.ga K "_law_shares") "_law_shares" "_law_shares" s__law_shares,
  Hd.mkO (fun K => He.ga K "_law_limit") "_law_limit" "_law_limit" s__law_limit,
  Hd.mkO (fun K => He.ga K "_law_limits") "_law_limits" "_law_limits" s__law_limits,
  Hd.mkO (fun K => He.ga K "_law_group_names") "_law_group_names" "_law_group_names" s__law_group_names,
  Hd.mkO (fun K => He.ga K "_law_cost") "_law_cost" "_law_cost" s__law_cost,
  Hd.mkO (fun K => He.ga K "_law_step") "_law_step" "_law_step" s__law_step,
  Hd.mkO (fun K => He.ga K "_law_start") "_law_start" "_law_start" s__law_start,
  Hd.mkO (fun K => He.ga K "_law_after") "_law_after" "_law_after" s__law_after,
  Hd.mkO (fun K => He.ga K "_law_looks") "_law_looks" "_law_looks" s__law_looks]
def hdFn1 : List Hd.DefO := [Hd.mkO (fun K => He.ga K "_law_pool_room") "_law_pool_room" "_law_pool_room" s__law_pool_room,
  Hd.mkO (fun K => He.ga K "_law_room") "_law_room" "_law_room" s__law_room,
  Hd.mkO (fun K => He.ga K "_law_lacking") "_law_lacking" "_law_lacking" s__law_lacking,
  Hd.mkO (fun K => He.ga K "_law_is_never") "_law_is_never" "_law_is_never" s__law_is_never,
  Hd.mkO (fun K => He.ga K "_law_is_earliest") "_law_is_earliest" "_law_is_earliest" s__law_is_earliest,
  Hd.mkO (fun K => He.ga K "_law_is_answer") "_law_is_answer" "_law_is_answer" s__law_is_answer,
  Hd.mkO (fun K => He.ga K "_law_is_unknown") "_law_is_unknown" "_law_is_unknown" s__law_is_unknown,
  Hd.mkO (fun K => He.ga K "law") "law" "law" s_law,
  Hd.mkO (fun K => He.ma K (He.ga K "Book") "__init__") "__init__" "Book.__init__" s_Book_init,
  Hd.mkO (fun K => Hd.prF K (He.ga K "Book") "limits") "limits" "Book.limits" s_Book_limits,
  Hd.mkO (fun K => He.ma K (He.ga K "WindowMeter") "__init__") "__init__" "WindowMeter.__init__" s_WindowMeter_init,
  Hd.mkO (fun K => He.ma K (He.ga K "WindowMeter") "sums_since") "sums_since" "WindowMeter.sums_since" s_WindowMeter_sums_since,
  Hd.mkO (fun K => He.ma K (He.ga K "WindowMeter") "room") "room" "WindowMeter.room" s_WindowMeter_room,
  Hd.mkO (fun K => He.ma K (He.ga K "WindowMeter") "earliest") "earliest" "WindowMeter.earliest" s_WindowMeter_earliest,
  Hd.mkO (fun K => He.ma K (He.ga K "WindowMeter") "let") "let" "WindowMeter.let" s_WindowMeter_let,
  Hd.mkO (fun K => He.ma K (He.ga K "SpanMeter") "__init__") "__init__" "SpanMeter.__init__" s_SpanMeter_init,
  Hd.mkO (fun K => He.ma K (He.ga K "SpanMeter") "used_in") "used_in" "SpanMeter.used_in" s_SpanMeter_used_in,
  Hd.mkO (fun K => He.ma K (He.ga K "SpanMeter") "room") "room" "SpanMeter.room" s_SpanMeter_room,
  Hd.mkO (fun K => He.ma K (He.ga K "SpanMeter") "earliest") "earliest" "SpanMeter.earliest" s_SpanMeter_earliest,
  Hd.mkO (fun K => He.ma K (He.ga K "SpanMeter") "let") "let" "SpanMeter.let" s_SpanMeter_let,
  Hd.mkO (fun K => He.ma K (He.ga K "BucketMeter") "__init__") "__init__" "BucketMeter.__init__" s_BucketMeter_init,
  Hd.mkO (fun K => He.ma K (He.ga K "BucketMeter") "missing_at") "missing_at" "BucketMeter.missing_at" s_BucketMeter_missing_at,
  Hd.mkO (fun K => He.ma K (He.ga K "BucketMeter") "too_much") "too_much" "BucketMeter.too_much" s_BucketMeter_too_much,
  Hd.mkO (fun K => He.ma K (He.ga K "BucketMeter") "room") "room" "BucketMeter.room" s_BucketMeter_room,
  Hd.mkO (fun K => He.ma K (He.ga K "BucketMeter") "earliest") "earliest" "BucketMeter.earliest" s_BucketMeter_earliest,
  Hd.mkO (fun K => He.ma K (He.ga K "BucketMeter") "let") "let" "BucketMeter.let" s_BucketMeter_let,
  Hd.mkO (fun K => He.ma K (He.ga K "GapMeter") "__init__") "__init__" "GapMeter.__init__" s_GapMeter_init,
  Hd.mkO (fun K => He.ma K (He.ga K "GapMeter") "room") "room" "GapMeter.room" s_GapMeter_room,
  Hd.mkO (fun K => He.ma K (He.ga K "GapMeter") "earliest") "earliest" "GapMeter.earliest" s_GapMeter_earliest,
  Hd.mkO (fun K => He.ma K (He.ga K "GapMeter") "let") "let" "GapMeter.let" s_GapMeter_let]
def hdFn2 : List Hd.DefO := [Hd.mkO (fun K => He.ma K (He.ga K "HeldMeter") "__init__") "__init__" "HeldMeter.__init__" s_HeldMeter_init,
  Hd.mkO (fun K => He.ma K (He.ga K "HeldMeter") "room") "room" "HeldMeter.room" s_HeldMeter_room,
  Hd.mkO (fun K => He.ma K (He.ga K "HeldMeter") "earliest") "earliest" "HeldMeter.earliest" s_HeldMeter_earliest,
  Hd.mkO (fun K => He.ma K (He.ga K "HeldMeter") "let") "let" "HeldMeter.let" s_HeldMeter_let,
  Hd.mkO (fun K => He.ma K (He.ga K "PoolMeter") "__init__") "__init__" "PoolMeter.__init__" s_PoolMeter_init,
  Hd.mkO (fun K => He.ma K (He.ga K "PoolMeter") "borrowed") "borrowed" "PoolMeter.borrowed" s_PoolMeter_borrowed,
  Hd.mkO (fun K => He.ma K (He.ga K "PoolMeter") "room") "room" "PoolMeter.room" s_PoolMeter_room,
  Hd.mkO (fun K => He.ma K (He.ga K "PoolMeter") "earliest") "earliest" "PoolMeter.earliest" s_PoolMeter_earliest,
  Hd.mkO (fun K => He.ma K (He.ga K "PoolMeter") "let") "let" "PoolMeter.let" s_PoolMeter_let,
  Hd.mkO (fun K => He.ma K (He.ga K "Answer") "__init__") "__init__" "Answer.__init__" s_Answer_init,
  Hd.mkO (fun K => He.ma K (He.ga K "Answer") "parts") "parts" "Answer.parts" s_Answer_parts,
  Hd.mkO (fun K => He.ma K (He.ga K "Keeper") "__init__") "__init__" "Keeper.__init__" s_Keeper_init,
  Hd.mkO (fun K => He.ma K (He.ga K "Keeper") "_check_next") "_check_next" "Keeper._check_next" s_Keeper__check_next,
  Hd.mkO (fun K => He.ma K (He.ga K "Keeper") "_check_known") "_check_known" "Keeper._check_known" s_Keeper__check_known,
  Hd.mkO (fun K => He.ma K (He.ga K "Keeper") "_let") "_let" "Keeper._let" s_Keeper__let,
  Hd.mkO (fun K => He.ma K (He.ga K "Keeper") "_earliest") "_earliest" "Keeper._earliest" s_Keeper__earliest,
  Hd.mkO (fun K => He.ma K (He.ga K "Keeper") "ask") "ask" "Keeper.ask" s_Keeper_ask,
  Hd.mkO (fun K => He.ma K (He.ga K "Keeper") "knows") "knows" "Keeper.knows" s_Keeper_knows,
  Hd.mkO (fun K => He.ma K (He.ga K "Keeper") "answer_of") "answer_of" "Keeper.answer_of" s_Keeper_answer_of,
  Hd.mkE "KeyKnown" "KeyKnown.__init__" "key" "a key was asked before" ⟨19, 17, 19, 21⟩ ⟨19, 23, 19, 26⟩ ⟨20, 8, 20, 13⟩ ⟨20, 8, 20, 15⟩ ⟨20, 8, 20, 24⟩ ⟨20, 25, 20, 49⟩ ⟨20, 8, 20, 50⟩ ⟨20, 8, 20, 50⟩ ⟨21, 8, 21, 12⟩ ⟨21, 8, 21, 16⟩ ⟨21, 19, 21, 22⟩ ⟨21, 8, 21, 22⟩,
  Hd.mkE "UnknownKey" "UnknownKey.__init__" "key" "a key is not known" ⟨24, 17, 24, 21⟩ ⟨24, 23, 24, 26⟩ ⟨25, 8, 25, 13⟩ ⟨25, 8, 25, 15⟩ ⟨25, 8, 25, 24⟩ ⟨25, 25, 25, 45⟩ ⟨25, 8, 25, 46⟩ ⟨25, 8, 25, 46⟩ ⟨26, 8, 26, 12⟩ ⟨26, 8, 26, 16⟩ ⟨26, 19, 26, 22⟩ ⟨26, 8, 26, 22⟩,
  Hd.mkE "EarlierMoment" "EarlierMoment.__init__" "moment" "a moment is less than the one before it" ⟨29, 17, 29, 21⟩ ⟨29, 23, 29, 29⟩ ⟨30, 8, 30, 13⟩ ⟨30, 8, 30, 15⟩ ⟨30, 8, 30, 24⟩ ⟨30, 25, 30, 66⟩ ⟨30, 8, 30, 67⟩ ⟨30, 8, 30, 67⟩ ⟨31, 8, 31, 12⟩ ⟨31, 8, 31, 19⟩ ⟨31, 22, 31, 28⟩ ⟨31, 8, 31, 28⟩]
def hdFn : List Hd.DefO := hdFn0 ++ hdFn1 ++ hdFn2
def hdTb : List (PySem.W.Frag → Addr) := [fun K => He.ga K "SIZES"]
def hdTk : List (List Str) := [[("window" : Str), ("span" : Str), ("bucket" : Str), ("gap" : Str), ("held" : Str), ("pool" : Str)]]
def hdNm0 : List Str := [("_wall" : Str), ("__name__" : Str), ("LimitError" : Str), ("InvalidName" : Str), ("InvalidRequest" : Str), ("InvalidLimit" : Str), ("InvalidBook" : Str), ("TooLarge" : Str), ("KeyKnown" : Str), ("UnknownKey" : Str), ("EarlierMoment" : Str), ("LETTERS" : Str), ("MOST_MOMENT" : Str), ("MOST_NUMBER" : Str), ("SIZES" : Str), ("is_name" : Str), ("is_key" : Str), ("check_request" : Str), ("check_moment" : Str), ("ascends" : Str), ("check_names" : Str), ("are_shares" : Str), ("has_form" : Str), ("check_pool" : Str), ("check_numbers" : Str), ("check_limit" : Str), ("looks_at" : Str), ("Book" : Str), ("first_of" : Str), ("WindowMeter" : Str)]
def hdNm1 : List Str := [("SpanMeter" : Str), ("BucketMeter" : Str), ("GapMeter" : Str), ("HeldMeter" : Str), ("common_of" : Str), ("share_for" : Str), ("PoolMeter" : Str), ("meter_for" : Str), ("MOST_KEYS" : Str), ("Answer" : Str), ("Keeper" : Str), ("_law_row" : Str), ("_law_numbers" : Str), ("_law_is_integer" : Str), ("_law_names" : Str), ("_law_keys" : Str), ("_law_shares" : Str), ("_law_limit" : Str), ("_law_limits" : Str), ("_law_group_names" : Str), ("_law_cost" : Str), ("_law_step" : Str), ("_law_start" : Str), ("_law_after" : Str), ("_law_looks" : Str), ("_law_pool_room" : Str), ("_law_room" : Str), ("_law_lacking" : Str), ("_law_is_never" : Str), ("_law_is_earliest" : Str)]
def hdNm2 : List Str := [("_law_is_answer" : Str), ("_law_is_unknown" : Str)]
def hdNm : List Str := hdNm0 ++ hdNm1 ++ hdNm2
abbrev rwR : PySem.W.OpenRow := PySem.W.OpenLaw.row PySem.Challenge.rw_limitweave_k25_answers
abbrev hkL : PySem.W.Hook := Hd.hookH hdEx hdFn hdTb hdTk
def obL (s : PySem.W.SharedT) : Hd.AlH := Hd.obsHG hdEx hdFn hdTb (HandSHeadRun.getT s)
theorem obL_eq (s : PySem.W.SharedT) : obL s = hkL.obs s.abs := Hd.obsHG_eq (HandSHeadRun.getT_eq s)
theorem run_false (w : World) : HandSHeadRun.RunEq rwR (PySem.W.view rwR.prog [68]) hkL obL 30000 hdNm (w.withFollow "special-get-raises" false) := by
  intro os
  kernel_rfl
theorem run_true (w : World) : HandSHeadRun.RunEq rwR (PySem.W.view rwR.prog [68]) hkL obL 30000 hdNm (w.withFollow "special-get-raises" true) := by
  intro os
  kernel_rfl
theorem run_all (w : World) : HandSHeadRun.RunEq rwR (PySem.W.view rwR.prog [68]) hkL obL 30000 hdNm w := PySem.W.byRow2 "special-get-raises" run_false run_true w
--RUN END
/-! ### A. stepping through a reading, from the left: one lemma a combinator -/
section
variable {K : PySem.W.Frag} {σ : L2.St} {H : Hp} {D : Ends} {Q : VK} {QB : Bool → Hp → Prop} {te ta tb tc : TE} {tt tu : TT} {t u : TS} {g : TG} {v x y : V} {i j : Int} {b : Bool}
theorem g_seq (q : t { D with nx := u D } σ H) : tSeq t u D σ H := q
theorem g_next (q : D.nx σ H) : tNext D σ H := q
theorem g_asg (q : te σ H (fun x H1 => g x σ H1 D.nx)) : tAsg te g D σ H := q
theorem g_name {n : Nat} {Qs : L2.St → Hp → Prop} (q : Qs (σ.set n (some v)) H) : gName n v σ H Qs := q
theorem g_ret (q : te σ H D.rt) : tRet te D σ H := q
theorem g_drop (q : te σ H fun _ H1 => D.nx σ H1) : tDrop te D σ H := q
theorem g_ifS (q : tt σ H fun b H1 => if b = true then t D σ H1 else u D σ H1) : tIfS tt t u D σ H := q
theorem g_var {n : Nat} (h : σ[n]? = some (some v)) (q : Q v H) : tVar n σ H Q := ⟨v, h, q⟩
theorem g_c (q : Q v H) : tC v σ H Q := q
theorem g_op {r : R2} (q : ta σ H fun x H1 => tb σ H1 fun y H2 => r x y H2 Q) : tOp r ta tb σ H Q := q
theorem g_un {r : V → Hp → VK → Prop} (q : ta σ H fun x H1 => r x H1 Q) : tUn r ta σ H Q := q
theorem g_chain {r r' : R2} (q : ta σ H fun x H1 => tb σ H1 fun y H2 => r x y H2 fun z H3 => ∃ k, z = .bl k ∧ (if k = true then tc σ H3 fun w' H4 => r' y w' H4 Q else Q (.bl false) H3)) : tChain r r' ta tb tc σ H Q := q
theorem g_rI0 {f : Int → Int → V} (q : Q (f i j) H) : rI0 f (.int i) (.int j) H Q := ⟨i, j, rfl, rfl, q⟩
theorem g_rI {C : Int → Int → Prop} {f : Int → Int → V} (hc : C i j) (q : Q (f i j) H) : rI C f (.int i) (.int j) H Q := ⟨i, j, rfl, rfl, hc, q⟩
theorem g_rU {f : Int → V} (q : Q (f i) H) : rU f (.int i) H Q := ⟨i, rfl, q⟩
theorem g_ipI {f : Int → Int → Int} (q : Q (.int (f i j)) H) : ipI f (.int i) (.int j) H Q := ⟨i, j, rfl, rfl, q⟩
theorem g_test (q : te σ H fun x H' => ∃ k, x = .bl k ∧ QB k H') : tTest te σ H QB := q
theorem g_tB (q : te σ H fun x H' => ∃ k, x = .bl k ∧ QB k H') : tB te σ H QB := q
theorem g_bl {P : Bool → Prop} (q : P b) : ∃ k, V.bl b = .bl k ∧ P k := ⟨b, rfl, q⟩
theorem g_not (q : tt σ H fun c H1 => QB (!c) H1) : tNot tt σ H QB := q
theorem g_and (q : tt σ H fun c H1 => if c = true then tu σ H1 QB else QB false H1) : tAnd tt tu σ H QB := q
theorem g_or (q : tt σ H fun c H1 => if c = true then QB true H1 else tu σ H1 QB) : tOr tt tu σ H QB := q
theorem g_andV (q : ta σ H fun x H1 => ∃ c, x = .bl c ∧ if c = true then tb σ H1 Q else Q (.bl false) H1) : tAndV ta tb σ H Q := q
theorem g_orV (q : ta σ H fun x H1 => ∃ c, x = .bl c ∧ if c = true then Q (.bl true) H1 else tb σ H1 Q) : tOrV ta tb σ H Q := q
theorem g_notV (q : ta σ H fun x H1 => ∃ c, x = .bl c ∧ Q (.bl (!c)) H1) : tNotV ta σ H Q := q
theorem g_if (q : tt σ H fun c H1 => if c = true then ta σ H1 Q else tb σ H1 Q) : tIf tt ta tb σ H Q := q
theorem g_tup {t : TA} (q : t σ H fun xs H1 => xs.length ≤ sizeLine ∧ ∀ p, H1 p = none → Q (.ref p) (upd H1 p (.tup xs))) : tTup t σ H Q := q
theorem g_lst {t : TA} (q : t σ H fun xs H1 => xs.length ≤ sizeLine ∧ ∀ p, H1 p = none → Q (.ref p) (upd H1 p (.lst xs))) : tLst t σ H Q := q
theorem g_nil {R : List V → Hp → Prop} (q : R [] H) : tNil σ H R := q
theorem g_cons {t : TA} {R : List V → Hp → Prop} (q : te σ H fun x H1 => t σ H1 fun xs H2 => R (x :: xs) H2) : tCons te t σ H R := q
theorem g_call {sp : Sp} {dvs : List V} {E : XK} {t : TA} (q : t σ H fun vs H1 => sp (vs ++ dvs) H1 Q E) : tCall sp dvs E t σ H Q := q
theorem g_cb {r : List V → Hp → VK → Prop} {t : TA} (q : t σ H fun vs H1 => r vs H1 Q) : tCB r t σ H Q := q
theorem g_bm {T : String} {r : V → List V → Hp → VK → Prop} {t : TA} (q : te σ H fun x H1 => tyV K T x H1 ∧ t σ H1 fun xs H2 => r x xs H2 Q) : tBM K T r te t σ H Q := q
theorem g_bm0 {T : String} {r : V → List V → Hp → VK → Prop} (q : te σ H fun x H1 => tyV K T x H1 ∧ r x [] H1 Q) : tBM0 K T r te σ H Q := q
theorem g_m0 {r : V → List V → Hp → VK → Prop} (q : te σ H fun x H1 => (∃ a, x = .str a) ∧ r x [] H1 Q) : tM0 r te σ H Q := q
theorem g_m1 {r : V → List V → Hp → VK → Prop} (q : te σ H fun x H1 => (∃ a, x = .str a) ∧ ta σ H1 fun y H2 => r x [y] H2 Q) : tM1 r te ta σ H Q := q
theorem g_sl {r : V → Option Int → Option Int → Hp → VK → Prop} {tl th : TO} (q : te σ H fun x H1 => tl σ H1 fun l H2 => th σ H2 fun u H3 => r x l u H3 Q) : tSl r te tl th σ H Q := q
theorem g_nop {R : Option Int → Hp → Prop} (q : R none H) : tNoPart σ H R := q
theorem g_part {R : Option Int → Hp → Prop} (q : te σ H fun x H1 => ∃ i, x = .int i ∧ R (some i) H1) : tPart te σ H R := q
theorem g_isI {P : Int → Prop} (q : P i) : ∃ k, V.int i = .int k ∧ P k := ⟨i, rfl, q⟩
theorem g_isS {P : Prop} {z : Str} (q : P) : (∃ a, V.str z = .str a) ∧ P := ⟨⟨z, rfl⟩, q⟩
theorem g_aug {n : Nat} {ti : TIp} (h : σ[n]? = some (some v)) (q : te σ H fun y H1 => ti v y H1 fun z H2 => D.nx (σ.set n (some z)) H2) : tAug n te ti D σ H := ⟨v, h, q⟩
/-! equality of scalars -/
theorem g_eqI (q : Q (.bl (decide (i = j))) H) : rEq (.int i) (.int j) H Q := ⟨rfl, by
  have e : decide (V.int i = V.int j) = decide (i = j) := by by_cases h : i = j <;> simp [h]
  rw [e]; exact q⟩
theorem g_neI (q : Q (.bl (!decide (i = j))) H) : rNe (.int i) (.int j) H Q := ⟨rfl, by
  have e : decide (V.int i = V.int j) = decide (i = j) := by by_cases h : i = j <;> simp [h]
  rw [e]; exact q⟩
theorem g_eqS {z w : Str} (q : Q (.bl (decide (z = w))) H) : rEq (.str z) (.str w) H Q := ⟨rfl, by
  have e : decide (V.str z = V.str w) = decide (z = w) := by by_cases h : z = w <;> simp [h]
  rw [e]; exact q⟩
theorem g_neS {z w : Str} (q : Q (.bl (!decide (z = w))) H) : rNe (.str z) (.str w) H Q := ⟨rfl, by
  have e : decide (V.str z = V.str w) = decide (z = w) := by by_cases h : z = w <;> simp [h]
  rw [e]; exact q⟩
/-! ways -/
theorem w_ite {P R : Prop} (h1 : b = true → P) (h2 : b = false → R) : if b = true then P else R := by
  cases b with
  | true => rw [if_pos rfl]; exact h1 rfl
  | false => rw [if_neg Bool.false_ne_true]; exact h2 rfl
theorem w_dec {p P R : Prop} [Decidable p] (h1 : p → P) (h2 : ¬ p → R) : if decide p = true then P else R :=
  w_ite (fun e => h1 (of_decide_eq_true e)) fun e => h2 (of_decide_eq_false e)
theorem w_ndec {p P R : Prop} [Decidable p] (h1 : ¬ p → P) (h2 : p → R) : if (!decide p) = true then P else R :=
  w_ite (fun e => h1 (by simpa using e)) fun e => h2 (by simpa using e)
theorem w_t {P R : Prop} (h : P) : if true = true then P else R := by rw [if_pos rfl]; exact h
theorem w_f {P R : Prop} (h : R) : if false = true then P else R := by rw [if_neg Bool.false_ne_true]; exact h
theorem w_yes {P R : Prop} (e : b = true) (h : P) : if b = true then P else R := by rw [if_pos e]; exact h
theorem w_no {P R : Prop} (e : b = false) (h : R) : if b = true then P else R := by rw [e, if_neg Bool.false_ne_true]; exact h
/-! loops -/
def LoopOk (J : It) (g : TG) (tb : TS) (D : Ends) (σ : L2.St) (H1 : Hp) : Prop := ∃ W : Nat → Nat → L2.St → Hp → Prop, (∃ m, W 0 m σ H1) ∧ ∀ i m σ H, W i m σ H →
  (J.stop i H ∧ D.nx σ H) ∨ (J.go i H ∧ ∃ N : L2.St → Hp → Prop, (∀ σ' H', N σ' H' → ∃ m', m' < m ∧ W (i + 1) m' σ' H') ∧ ∀ x H', J.yld i H x H' → g x σ H' fun σ2 H2 => tb { D with nx := N, ct := N, bk := D.nx } σ2 H2)
theorem g_for {wi : TI} (q : wi σ H fun J H1 => LoopOk J g t D σ H1) : tFor wi g t D σ H := q
theorem l_it {J : It} {n : Nat} {G : Hp → Prop} {Y : Nat → Hp → V → Hp → Prop} (w : Walk J n G Y) (Pv : Nat → L2.St → Hp → Prop) (h0 : Pv 0 σ H) (hG : ∀ i σ H, i ≤ n → Pv i σ H → G H)
    (hs : ∀ i x σ H H', i < n → Pv i σ H → Y i H x H' → g x σ H' fun σ2 H2 => t { D with nx := Pv (i + 1), ct := Pv (i + 1), bk := D.nx } σ2 H2) (hd : ∀ σ H, Pv n σ H → D.nx σ H) : LoopOk J g t D σ H := for_it w Pv h0 hG hs hd
def LcOk (J : It) (g : TG) (tt : TT) (te : TE) (vs : List Nat) (Q : VK) (σ : L2.St) (H1 : Hp) : Prop := ∀ D, H1 D = none → ∃ W : Nat → Nat → Hp → Prop, (∃ m, W 0 m (upd H1 D (.lst []))) ∧ ∀ i m H, W i m H →
  (J.stop i H ∧ Q (.ref D) H) ∨ (J.go i H ∧ ∃ Nx : Hp → Prop, (∀ H', Nx H' → ∃ m', m' < m ∧ W (i + 1) m' H') ∧ ∀ x H', J.yld i H x H' → g x (wipe σ vs) H' fun σ2 H2 => wipe σ2 vs = wipe σ vs ∧ tt σ2 H2 fun b H3 =>
    if b = true then te σ2 H3 fun y H4 => ∃ acc, H4 D = some (.lst acc) ∧ acc.length < sizeLine ∧ Nx (upd H4 D (.lst (acc ++ [y]))) else Nx H3)
theorem g_lc {wi : TI} {vs : List Nat} (q : wi σ H fun J H1 => LcOk J g tt te vs Q σ H1) : tLc wi g tt te vs σ H Q := q
/-- a comprehension [f(x) for x in ..] without a test: the i-th element becomes F i; what stood stands -/
theorem lc_pure {J : It} {n : Nat} {G : Hp → Prop} {Y : Nat → Hp → V → Hp → Prop} {vs : List Nat} (w : Walk J n G Y) (F : Nat → V) (hn : n < sizeLine)
    (hG : ∀ H', Ex H H' → G H')
    (hs : ∀ i x H1 H2, i < n → Ex H H1 → Y i H1 x H2 → ∀ R : VK, (∀ H3, (∀ a o, H2 a = some o → H3 a = some o) → R (F i) H3) →
      g x (wipe σ vs) H2 fun σ2 H3 => wipe σ2 vs = wipe σ vs ∧ te σ2 H3 R)
    (hy : ∀ i H1 x H2, Y i H1 x H2 → Ex H1 H2)
    (hq : ∀ p H', H p = none → Ex H H' → H' p = some (.lst ((List.range n).map F)) → Q (.ref p) H') : LcOk J g tYes te vs Q σ H := by
  intro D hD
  refine lc_it w (fun i H' => Ex H H' ∧ H' D = some (.lst ((List.range i).map F))) ⟨Ex.new hD, upd_same⟩ (fun i H' _ h => hG H' h.1) (fun i x H1 H2 hi hP hY => ?_) (fun H' h => hq D H' hD h.1 h.2)
  obtain ⟨hE, hL⟩ := hP
  have e2 := hy i H1 x H2 hY
  have key : ∀ H3, (∀ a o, H2 a = some o → H3 a = some o) → ∃ acc, H3 D = some (.lst acc) ∧ acc.length < sizeLine ∧ (Ex H (upd H3 D (.lst (acc ++ [F i]))) ∧ upd H3 D (.lst (acc ++ [F i])) D = some (.lst ((List.range (i + 1)).map F))) := fun H3 e3 => by
    refine ⟨_, e3 _ _ (e2 _ _ hL), by rw [List.length_map, List.length_range]; omega, Evl.Ex.mut ((hE.trans e2).trans e3) hD, ?_⟩
    rw [upd_same, List.range_succ, List.map_append]
    rfl
  have main := hs i x H1 H2 hi hE hY (fun y H4 => ∃ acc, H4 D = some (.lst acc) ∧ acc.length < sizeLine ∧ (Ex H (upd H4 D (.lst (acc ++ [y]))) ∧ upd H4 D (.lst (acc ++ [y])) D = some (.lst ((List.range (i + 1)).map F)))) key
  exact main
/-! what is walked -/
def rIL (K : PySem.W.Frag) (R : It → Hp → Prop) : VK := fun x H1 => ∃ a, x = .ref a ∧ (∃ xs, SqL K H1 a xs) ∧ R (Itl K a) H1
def rIT (K : PySem.W.Frag) (R : It → Hp → Prop) : VK := fun x H1 => ∃ a, x = .ref a ∧ (∃ xs, SqT K H1 a xs) ∧ R (Itt K a) H1
theorem g_iList {tl : TE} {R : It → Hp → Prop} (q : tl σ H (rIL K R)) : iList K tl σ H R := q
theorem g_iTup {tl : TE} {R : It → Hp → Prop} (q : tl σ H (rIT K R)) : iTup K tl σ H R := q
theorem g_atL {R : It → Hp → Prop} {a : Addr} {xs : List V} (h : SqL K H a xs) (q : R (Itl K a) H) : rIL K R (.ref a) H := ⟨a, rfl, ⟨xs, h⟩, q⟩
theorem g_atT {R : It → Hp → Prop} {a : Addr} {xs : List V} (h : SqT K H a xs) (q : R (Itt K a) H) : rIT K R (.ref a) H := ⟨a, rfl, ⟨xs, h⟩, q⟩
theorem g_iStr {R : It → Hp → Prop} (q : te σ H fun v H1 => ∃ x, v = .str x ∧ R (Its x) H1) : iStr te σ H R := q
theorem g_atS {P : Str → Prop} {z : Str} (q : P z) : ∃ x, V.str z = .str x ∧ P x := ⟨z, rfl, q⟩
theorem g_iRng1 {ta : TA} {R : It → Hp → Prop} (q : ta σ H fun vs H1 => ∃ j : Int, vs = [.int j] ∧ -(2 ^ 62) ≤ j ∧ j < 2 ^ 62 ∧ R (Itr 0 j.toNat) H1) : iRng1 ta σ H R := q
theorem g_rng {P : Int → Prop} (h : -(2 ^ 62) ≤ i ∧ i < 2 ^ 62) (q : P i) : ∃ j : Int, ([V.int i] : List V) = [.int j] ∧ -(2 ^ 62) ≤ j ∧ j < 2 ^ 62 ∧ P j := ⟨i, rfl, h.1, h.2, q⟩
/-! list items -/
theorem g_ixL {p : Addr} {xs : List V} (h : SqL K H p xs) (ha : atI xs i = some v) (q : Q v H) : rIxL K (.ref p) (.int i) H Q := ⟨p, xs, i, v, rfl, rfl, h, ha, q⟩
theorem g_ixT {p : Addr} {xs : List V} (h : SqT K H p xs) (ha : atI xs i = some v) (q : Q v H) : rIxT K (.ref p) (.int i) H Q := ⟨p, xs, i, v, rfl, rfl, h, ha, q⟩
theorem g_ixS {z : Str} {c : Nat} (h : z.length ≤ sizeLine) (ha : atI z.cps.toList i = some c) (q : Q (.str ⟨#[c]⟩) H) : rIxS (.str z) (.int i) H Q := ⟨z, i, c, rfl, rfl, h, ha, q⟩
theorem g_app {l : Addr} {xs : List V} (hl : H l = some (.lst xs)) (hz : xs.length < sizeLine) (q : Q .non (upd H l (.lst (xs ++ [v])))) : rAppend (.ref l) [v] H Q := ⟨l, xs, v, rfl, rfl, hl, hz, q⟩
theorem g_tyL {P : Prop} {l : Addr} {xs : List V} (hl : SqL K H l xs) (q : P) : tyV K "list" (.ref l) H ∧ P := ⟨.inl ⟨rfl, xs, hl⟩, q⟩
theorem g_tyS {P : Prop} {z : Str} (q : P) : tyV K "str" (.str z) H ∧ P := ⟨rfl, q⟩
theorem g_slL {p : Addr} {xs : List V} {lo hi : Option Int} (h : SqL K H p xs) (q : ∀ p, H p = none → Q (.ref p) (upd H p (.lst (cutV xs lo hi)))) : rSlL K (.ref p) lo hi H Q := ⟨p, xs, rfl, h, q⟩
theorem g_slS {z : Str} {lo hi : Option Int} (h : z.length ≤ sizeLine) (q : Q (.str (cutS z lo hi)) H) : rSlS (.str z) lo hi H Q := ⟨z, rfl, h, q⟩
end
/-! ### B. further rules -/
section
variable {X : Cx}
theorem pe_globE {x : Str} {pos : Pos} {v : V} (h : ∃ u, X.mg x = some u ∧ RelV v u) (hg : Gl X x) (hd : (x == ("__debug__" : Str)) = false := by decide) : PE X (.Name x pos) (tC v) := by
  obtain ⟨u, hm, r⟩ := h
  exact pe_glob hg hm r hd
def rIntI : List V → Hp → VK → Prop := fun xs H Q => ∃ i, xs = [.int i] ∧ Q (.int i) H
def rIntB : List V → Hp → VK → Prop := fun xs H Q => ∃ k, xs = [.bl k] ∧ Q (.int (if k then 1 else 0)) H
theorem call_intI : CallR X (.type "int") rIntI := fun pins s σ H xs us Q I r h => call_int1 pins s σ H xs us Q I r (.inl h)
theorem call_intB : CallR X (.type "int") rIntB := fun pins s σ H xs us Q I r h => call_int1 pins s σ H xs us Q I r (.inr h)
def rAbs : List V → Hp → VK → Prop := fun xs H Q => ∃ i, xs = [.int i] ∧ Q (.int (if i < 0 then -i else i)) H
theorem call_absN : CallR X (.builtin "abs") rAbs := call_abs
def rMax2 : List V → Hp → VK → Prop := fun xs H Q => ∃ i j, xs = [.int i, .int j] ∧ Q (.int (if j > i then j else i)) H
theorem call_max2N (hc : X.calm = true) : CallR X (.builtin "max") rMax2 := call_max2 hc
def rMin2 : List V → Hp → VK → Prop := fun xs H Q => ∃ i j, xs = [.int i, .int j] ∧ Q (.int (if j < i then j else i)) H
theorem call_min2N (hc : X.calm = true) : CallR X (.builtin "min") rMin2 := call_min2 hc
def rLen (K : PySem.W.Frag) : List V → Hp → VK → Prop := fun xs H Q => ∃ p ys, xs = [.ref p] ∧ (SqL K H p ys ∨ SqT K H p ys) ∧ Q (.int ys.length) H
theorem call_lenN : CallR X (.builtin "len") (rLen X.K) := call_len_seq
def rLenS : List V → Hp → VK → Prop := fun xs H Q => ∃ z, xs = [.str z] ∧ z.length ≤ sizeLine ∧ Q (.int z.length) H
theorem call_lenSN : CallR X (.builtin "len") rLenS := call_len_str
def rOrd : List V → Hp → VK → Prop := fun xs H Q => ∃ x, xs = [.str x] ∧ x.length = 1 ∧ Q (.int (x.cps.getD 0 0 : Nat)) H
def rAddS : R2 := fun x y H Q => ∃ i j, x = .str i ∧ y = .str j ∧ i.length + j.length ≤ sizeLine ∧ Q (.str (i ++ j)) H
theorem op_addSN : OpR X (binaryOp .Add) rAddS := op_add_str
def rCmpS (f : List Nat → List Nat → Bool) : R2 := fun x y H Q => ∃ i j, x = .str i ∧ y = .str j ∧ Q (.bl (f i.cps.toList j.cps.toList)) H
theorem op_lt_strN : OpR X (compareOp .Lt) (rCmpS fun a b => decide (a < b)) := op_lt_str
def rInS : R2 := fun x y H Q => ∃ (c : Nat) (z : Str), x = .str ⟨#[c]⟩ ∧ y = .str z ∧ Q (.bl (decide (c ∈ z.cps.toList))) H
def rNinS : R2 := fun x y H Q => ∃ (c : Nat) (z : Str), x = .str ⟨#[c]⟩ ∧ y = .str z ∧ Q (.bl (!decide (c ∈ z.cps.toList))) H
theorem op_inSN : OpR X (compareOp .In) rInS := op_in_sign
def rIsN : R2 := fun x y H Q => y = .non ∧ Q (.bl (decide (x = .non))) H
def rNotN : R2 := fun x y H Q => y = .non ∧ Q (.bl (!decide (x = .non))) H
theorem op_isNN : OpR X (compareOp .Is) rIsN := op_isN
theorem op_notNN : OpR X (compareOp .IsNot) rNotN := op_notN
def rStrI : List V → Hp → VK → Prop := fun xs H Q => ∃ i : Int, xs = [.int i] ∧ i.natAbs.log2 < 1920 ∧ Q (.str (toString i)) H
def rJoin (K : PySem.W.Frag) : V → List V → Hp → VK → Prop := fun x xs H Q => ∃ a p, ∃ ys : List Str, x = .str a ∧ xs = [.ref p] ∧ (SqL K H p (ys.map V.str) ∨ SqT K H p (ys.map V.str)) ∧ (ys.map (·.length)).sum + ys.length * a.length ≤ 16777216 ∧ Q (.str (Txt.join a ys)) H
theorem mt_joinN : MtR X "str.join" (rJoin X.K) := mt_join
def rRjust : V → List V → Hp → VK → Prop := fun x xs H Q => ∃ (a b : Str) (i : Int), x = .str a ∧ xs = [.int i, .str b] ∧ PadOk i = true ∧ b.length = 1 ∧ Q (.str (Txt.rjustF a i (b.cps.getD 0 0))) H
def rSplitMax : V → List V → Hp → VK → Prop := fun x xs H Q => ∃ (a b : Str) (k : Int), x = .str a ∧ xs = [.str b, .int k] ∧ (b.length == 0) = false ∧ -(2 ^ 63) ≤ k ∧ k < 2 ^ 63 ∧ a.length + 2 ≤ sizeLine ∧ rNewStrs (Txt.splitMax a b k) H Q
def rSplit : V → List V → Hp → VK → Prop := fun x xs H Q => ∃ a b, x = .str a ∧ xs = [.str b] ∧ (b.length == 0) = false ∧ a.length + 2 ≤ sizeLine ∧ rNewStrs (Txt.split a b) H Q
/-! enumerate(text, k) -/
end
/-! ### C. the steps as one word -/
theorem fits_of {n : Nat} (h : n ≤ 1000000) : n ≤ sizeLine := Nat.le_trans h (by decide)
theorem fits_lt {n : Nat} (h : n ≤ 1000000) : n < sizeLine := Nat.lt_of_le_of_lt h (by decide)
theorem ex_sqL {K : PySem.W.Frag} {H H' : Hp} {a : Addr} {xs : List V} (e : Ex H H') (h : SqL K H a xs) : SqL K H' a xs := Evl.ex_l e h
theorem ex_sqT {K : PySem.W.Frag} {H H' : Hp} {a : Addr} {xs : List V} (e : Ex H H') (h : SqT K H a xs) : SqT K H' a xs := Evl.ex_t e h
theorem ex_at {H H' : Hp} {a : Addr} {o : HO} (e : Ex H H') (h : H a = some o) : H' a = some o := e a o h
theorem ex_free {H H' : Hp} {p : Addr} (e : Ex H H') (h : H' p = none) : H p = none := Evl.fresh_back e h
theorem g_intI {H : Hp} {Q : VK} {i : Int} (q : Q (.int i) H) : rIntI [.int i] H Q := ⟨i, rfl, q⟩
theorem g_intB {H : Hp} {Q : VK} {b : Bool} (q : Q (.int (if b then 1 else 0)) H) : rIntB [.bl b] H Q := ⟨b, rfl, q⟩
theorem g_abs {H : Hp} {Q : VK} {i : Int} (q : Q (.int (if i < 0 then -i else i)) H) : rAbs [.int i] H Q := ⟨i, rfl, q⟩
theorem g_max2 {H : Hp} {Q : VK} {i j : Int} (q : Q (.int (if j > i then j else i)) H) : rMax2 [.int i, .int j] H Q := ⟨i, j, rfl, q⟩
theorem g_min2 {H : Hp} {Q : VK} {i j : Int} (q : Q (.int (if j < i then j else i)) H) : rMin2 [.int i, .int j] H Q := ⟨i, j, rfl, q⟩
theorem g_lenL {K : PySem.W.Frag} {H : Hp} {Q : VK} {p : Addr} {xs : List V} (h : SqL K H p xs) (q : Q (.int xs.length) H) : rLen K [.ref p] H Q := ⟨p, xs, rfl, .inl h, q⟩
theorem g_lenT {K : PySem.W.Frag} {H : Hp} {Q : VK} {p : Addr} {xs : List V} (h : SqT K H p xs) (q : Q (.int xs.length) H) : rLen K [.ref p] H Q := ⟨p, xs, rfl, .inr h, q⟩
theorem g_lenS {H : Hp} {Q : VK} {z : Str} (h : z.length ≤ sizeLine) (q : Q (.int z.length) H) : rLenS [.str z] H Q := ⟨z, rfl, h, q⟩
theorem g_addS {H : Hp} {Q : VK} {z w : Str} (h : z.length + w.length ≤ sizeLine) (q : Q (.str (z ++ w)) H) : rAddS (.str z) (.str w) H Q := ⟨z, w, rfl, rfl, h, q⟩
theorem g_ordS {H : Hp} {Q : VK} {c : Nat} (q : Q (.int (c : Nat)) H) : rOrd [.str ⟨#[c]⟩] H Q := ⟨⟨#[c]⟩, rfl, rfl, q⟩
theorem g_cmpS {H : Hp} {Q : VK} {f : List Nat → List Nat → Bool} {z w : Str} (q : Q (.bl (f z.cps.toList w.cps.toList)) H) : rCmpS f (.str z) (.str w) H Q := ⟨z, w, rfl, rfl, q⟩
theorem g_inS {H : Hp} {Q : VK} {c : Nat} {w : Str} (q : Q (.bl (decide (c ∈ w.cps.toList))) H) : rInS (.str ⟨#[c]⟩) (.str w) H Q := ⟨c, w, rfl, rfl, q⟩
theorem g_ninS {H : Hp} {Q : VK} {c : Nat} {w : Str} (q : Q (.bl (!decide (c ∈ w.cps.toList))) H) : rNinS (.str ⟨#[c]⟩) (.str w) H Q := ⟨c, w, rfl, rfl, q⟩
theorem g_isN {H : Hp} {Q : VK} {v : V} (q : Q (.bl (decide (v = .non))) H) : rIsN v .non H Q := ⟨rfl, q⟩
theorem g_notN {H : Hp} {Q : VK} {v : V} (q : Q (.bl (!decide (v = .non))) H) : rNotN v .non H Q := ⟨rfl, q⟩
theorem g_strI {H : Hp} {Q : VK} {i : Int} (h : i.natAbs.log2 < 1920) (q : Q (.str (toString i)) H) : rStrI [.int i] H Q := ⟨i, rfl, h, q⟩
theorem g_join {K : PySem.W.Frag} {H : Hp} {Q : VK} {z : Str} {p : Addr} {ys : List Str} (h : SqL K H p (ys.map V.str)) (hz : (ys.map (·.length)).sum + ys.length * z.length ≤ 16777216) (q : Q (.str (Txt.join z ys)) H) : rJoin K (.str z) [.ref p] H Q := ⟨z, p, ys, rfl, rfl, .inl h, hz, q⟩
theorem g_rjust {H : Hp} {Q : VK} {z w : Str} {i : Int} (hp : PadOk i = true) (hb : w.length = 1) (q : Q (.str (Txt.rjustF z i (w.cps.getD 0 0))) H) : rRjust (.str z) [.int i, .str w] H Q := ⟨z, w, i, rfl, rfl, hp, hb, q⟩
theorem g_splitMax {H : Hp} {Q : VK} {z w : Str} {k : Int} (hb : (w.length == 0) = false) (hk : -(2 ^ 63) ≤ k ∧ k < 2 ^ 63) (hz : z.length + 2 ≤ sizeLine) (q : ∀ p, H p = none → Q (.ref p) (upd H p (.lst ((Txt.splitMax z w k).map V.str)))) : rSplitMax (.str z) [.str w, .int k] H Q := ⟨z, w, k, rfl, rfl, hb, hk.1, hk.2, hz, q⟩
theorem g_split {H : Hp} {Q : VK} {z w : Str} (hb : (w.length == 0) = false) (hz : z.length + 2 ≤ sizeLine) (q : ∀ p, H p = none → Q (.ref p) (upd H p (.lst ((Txt.split z w).map V.str)))) : rSplit (.str z) [.str w] H Q := ⟨z, w, rfl, rfl, hb, hz, q⟩
theorem g_all {K : PySem.W.Frag} {H : Hp} {Q : VK} {p : Addr} {bs : List Bool} (h : SqL K H p (bs.map V.bl)) (q : Q (.bl (bs.all id)) H) : rAll K [.ref p] H Q := ⟨p, bs, rfl, h, q⟩
theorem g_sum {K : PySem.W.Frag} {H : Hp} {Q : VK} {p : Addr} {ns : List Int} (h : SqL K H p (ns.map V.int)) (q : Q (.int ns.sum) H) : rSum K [.ref p] H Q := ⟨p, ns, rfl, h, q⟩
theorem l_while {tt : TT} {tb : TS} {D : Ends} {σ : L2.St} {H : Hp} (W : Nat → L2.St → Hp → Prop) (m : Nat) (w0 : W m σ H)
    (hs : ∀ m σ H, W m σ H → ∃ b, (∀ QB : Bool → Hp → Prop, QB b H → tt σ H QB) ∧ (b = true → tb { D with nx := fun σ' H' => ∃ m', m' < m ∧ W m' σ' H', ct := fun σ' H' => ∃ m', m' < m ∧ W m' σ' H', bk := D.nx } σ H) ∧ (b = false → D.nx σ H)) : tWhile tt tb D σ H := by
  refine ⟨W, ⟨m, w0⟩, fun m σ H hw => ?_⟩
  obtain ⟨b, ht, h1, h2⟩ := hs m σ H hw
  refine ht _ ?_
  cases b with
  | true => exact w_t ⟨_, fun _ _ n => n, h1 rfl⟩
  | false => exact w_f (h2 rfl)
theorem cutV_to (ys : List V) {k : Int} (h : 0 ≤ k) : cutV ys none (some k) = ys.take k.toNat := by
  obtain ⟨n, rfl⟩ := Int.eq_ofNat_of_zero_le h
  unfold cutV
  rw [HT.sIx_none, HT.sIx_nat, List.drop_zero, Nat.sub_zero, Int.toNat_natCast]
  by_cases hn : n ≤ ys.length
  · rw [Nat.min_eq_left hn]
  · rw [Nat.min_eq_right (by omega), List.take_of_length_le (Nat.le_refl _), List.take_of_length_le (by omega)]
theorem cutV_from (ys : List V) {k : Int} (h : 0 ≤ k) : cutV ys (some k) none = ys.drop k.toNat := by
  obtain ⟨n, rfl⟩ := Int.eq_ofNat_of_zero_le h
  unfold cutV
  rw [HT.sIx_none, HT.sIx_nat, Int.toNat_natCast]
  by_cases hn : n ≤ ys.length
  · rw [Nat.min_eq_left hn]
    exact List.take_of_length_le (by rw [List.length_drop]; omega)
  · rw [Nat.min_eq_right (by omega), List.drop_of_length_le (Nat.le_refl _), List.drop_of_length_le (by omega), List.take_nil]
/-- if p: x = e (no else), one continuation for both ways -/
theorem w_ifset {p : Prop} [Decidable p] {te : TE} {n : Nat} {D : Ends} {σ : L2.St} {H : Hp} (W : V → Prop) (h1 : p → ∀ R : VK, (∀ x H', W x → Ex H H' → R x H') → te σ H R) (h0 : ¬ p → ∃ old, σ[n]? = some (some old) ∧ W old)
    (hk : ∀ x H', W x → Ex H H' → D.nx (σ.set n (some x)) H') : if decide p = true then tAsg te (gName n) D σ H else tNext D σ H := by
  refine w_dec (fun h => ?_) (fun h => ?_)
  · exact h1 h _ hk
  · obtain ⟨old, e, w⟩ := h0 h
    have e2 : σ.set n (some old) = σ := by
      apply List.ext_getElem?
      intro k
      by_cases hk : n = k
      · subst hk
        have hl : n < σ.length := (List.getElem?_eq_some_iff.mp e).1
        rw [List.getElem?_set_self hl, e]
      · rw [List.getElem?_set_ne hk]
    have q := hk old H w (Evl.Ex.refl H)
    rw [e2] at q
    exact q
theorem g_new {P : Addr → Prop} {n : Nat} {H : Hp} (hz : n ≤ sizeLine) (q : ∀ p, H p = none → P p) : n ≤ sizeLine ∧ ∀ p, H p = none → P p := ⟨hz, q⟩
/-! rules whose reading names the written part: told for a K that is said -/
section
variable {X : Cx} {K : PySem.W.Frag}
theorem ix_listK (h : X.K = K) : IxR X (rIxL K) := by subst h; exact ix_list
theorem ix_tupK (h : X.K = K) : IxR X (rIxT K) := by subst h; exact ix_tup
theorem sl_listK (h : X.K = K) : SlR X (rSlL K) := by subst h; exact sl_list
theorem call_lenK (h : X.K = K) : CallR X (.builtin "len") (rLen K) := by subst h; exact call_lenN
theorem op_inK (h : X.K = K) : OpR X (compareOp .In) (rIn K false) := by subst h; exact op_in_seq
theorem op_ninK (h : X.K = K) : OpR X (compareOp .NotIn) (rIn K true) := by subst h; exact op_notIn_seq
theorem op_neDK (h : X.K = K) (hu : X.A.units + 64 < cLine) : OpR X (compareOp .NotEq) (rNeD K) := by subst h; exact op_neD hu
theorem op_catTK (h : X.K = K) : OpR X (binaryOp .Add) (rCatT K) := by subst h; exact op_catT
theorem cr_allK (h : X.K = K) (hc : X.calm = true) : CallR X (.builtin "all") (rAll K) := by subst h; exact cr_all hc
theorem cr_sumK (h : X.K = K) (hc : X.calm = true) : CallR X (.builtin "sum") (rSum K) := by subst h; exact cr_sum hc
theorem mt_joinK (h : X.K = K) : MtR X "str.join" (rJoin K) := by subst h; exact mt_joinN
theorem pe_bmK {o e : Expr} {es : List Expr} {to : TE} {t : TA} {name : Str} {apos cpos : Pos} {T id : String} {r : V → List V → Hp → VK → Prop} (h : X.K = K) (pa : PlainAttrs T) (slot : Slot T name id) (hty : typeOf (.builtin id) = pure (.type "method_descriptor")) (hm : MtR X id r) (ho : PE X o to) (ha : PA X (e :: es) t)
    (hbase : attributeBase o name X.env (eval o X.env) = eval o X.env := by rfl)
    (hfew : ((backTo cpos (starEach (e :: es) X.env)).all (fun x => !x.1) && (backToKw cpos (keywordEach [] X.env)).all (fun x => x.1.isSome)
      && decide ((e :: es).length + ([] : List Keyword).length + (if ([] : List Keyword).isEmpty then 0 else 1) < 30)) = true := by rfl)
    (hline : (apos.endLine == cpos.line) = true := by rfl) (hs : starEach (e :: es) X.env = (false, eval e X.env) :: starEach es X.env := by rfl) (hplain : (backTo cpos (starEach es X.env)).any (·.1) = false := by rfl) :
    PE X (.Call (.Attribute o name apos) (e :: es) [] cpos) (tBM K T r to t) := by subst h; exact pe_bm pa slot hty hm ho ha hbase hfew hline hs hplain
theorem pg_tupK {es : List Expr} {k : Nat} {pos : Pos} {t : TGs} {n : Nat} (h : X.K = K) (hc : X.calm = true) (hs : PGs X es t) (hn : (assignEach es X.env).length = n := by rfl) (hst : (assignEach es X.env).findIdx? (·.1) = none := by rfl) : PG X (.Tuple es k pos) (gTup K n t) := by
  subst h; exact pg_tup hc hs hn hst
theorem pi_listK {tg l : Expr} {tl : TE} (h : X.K = K) (hl : PE X l tl) : PI X tg l (iList K tl) := by subst h; exact pi_list hl
theorem pi_tupK {tg l : Expr} {tl : TE} (h : X.K = K) (hl : PE X l tl) : PI X tg l (iTup K tl) := by subst h; exact pi_tup hl
end
open TL
/-! ### D. comprehensions over a text, a range, a list -/
section
variable {K : PySem.W.Frag} {σ : L2.St} {H : Hp} {Q : VK} {te : TE} {g : TG} {vs : List Nat}
theorem map_getD {α : Type} (l : List α) (d : α) (f : α → V) : (List.range l.length).map (fun i => f (l.getD i d)) = l.map f := by
  apply List.ext_getElem?
  intro k
  by_cases h : k < l.length
  · simp [h, List.getD]
  · simp [h]
theorem lc_str {z : Str} (f : Nat → V) (hn : z.length ≤ 1000000)
    (hs : ∀ c ∈ tl z, ∀ H1, Ex H H1 → ∀ R : VK, (∀ H3, Ex H1 H3 → R (f c) H3) → g (.str ⟨#[c]⟩) (wipe σ vs) H1 fun σ2 H3 => wipe σ2 vs = wipe σ vs ∧ te σ2 H3 R)
    (hq : ∀ p H', H p = none → Ex H H' → H' p = some (.lst ((tl z).map f)) → Q (.ref p) H') : LcOk (Its z) g tYes te vs Q σ H := by
  have hl : z.cps.size = (tl z).length := by simp [tl]
  refine lc_pure walk_str (fun i => f ((tl z).getD i 0)) (fits_lt (by rw [hl, ← len_tl]; exact hn)) (fun _ _ => trivial) (fun i x H1 H2 hi hE hY R hR => ?_) (fun i H1 x H2 hY => ?_) (fun p H' hp hE hL => ?_)
  · obtain ⟨rfl, c, hc, rfl⟩ := hY
    have e : (tl z)[i]? = some c := by simpa [tl] using hc
    have e2 : (tl z).getD i 0 = c := by rw [List.getD_eq_getElem?_getD, e]; rfl
    exact hs c (List.mem_of_getElem? e) H2 hE R fun H3 h3 => by
      have q := hR H3 h3
      simp only [e2] at q
      exact q
  · obtain ⟨rfl, _⟩ := hY
    exact Evl.Ex.refl _
  · refine hq p H' hp hE ?_
    rw [hL, hl, map_getD]
theorem lc_rng {n : Nat} (f : Nat → V) (hn : n ≤ 1000000)
    (hs : ∀ i, i < n → ∀ H1, Ex H H1 → ∀ R : VK, (∀ H3, Ex H1 H3 → R (f i) H3) → g (.int ((i : Nat) : Int)) (wipe σ vs) H1 fun σ2 H3 => wipe σ2 vs = wipe σ vs ∧ te σ2 H3 R)
    (hq : ∀ p H', H p = none → Ex H H' → H' p = some (.lst ((List.range n).map f)) → Q (.ref p) H') : LcOk (Itr 0 n) g tYes te vs Q σ H := by
  refine lc_pure walk_range f (fits_lt hn) (fun _ _ => trivial) (fun i x H1 H2 hi hE hY R hR => ?_) (fun i H1 x H2 hY => ?_) hq
  · obtain ⟨rfl, rfl⟩ := hY
    have e : (0 : Int) + (i : Nat) = ((i : Nat) : Int) := Int.zero_add _
    show g (.int ((0 : Int) + (i : Nat))) _ _ _
    rw [e]
    exact hs i hi H2 hE R hR
  · obtain ⟨rfl, _⟩ := hY
    exact Evl.Ex.refl _
theorem lc_lst {α : Type} {a : Addr} {xs : List α} (enc : α → V) (f : α → V) (d : α) (hS : SqL K H a (xs.map enc)) (hn : xs.length ≤ 1000000)
    (hs : ∀ x ∈ xs, ∀ H1, Ex H H1 → ∀ R : VK, (∀ H3, Ex H1 H3 → R (f x) H3) → g (enc x) (wipe σ vs) H1 fun σ2 H3 => wipe σ2 vs = wipe σ vs ∧ te σ2 H3 R)
    (hq : ∀ p H', H p = none → Ex H H' → H' p = some (.lst (xs.map f)) → Q (.ref p) H') : LcOk (Itl K a) g tYes te vs Q σ H := by
  refine lc_pure (walk_list (xs := xs.map enc)) (fun i => f (xs.getD i d)) (fits_lt (by rw [List.length_map]; exact hn)) (fun H' e => ex_sqL e hS) (fun i x H1 H2 hi hE hY R hR => ?_) (fun i H1 x H2 hY => ?_) (fun p H' hp hE hL => ?_)
  · obtain ⟨rfl, hx⟩ := hY
    rw [List.getElem?_map] at hx
    cases e : xs[i]? with
    | none => rw [e] at hx; cases hx
    | some y =>
      rw [e] at hx
      have ex : enc y = x := Option.some.inj hx
      subst ex
      have e2 : xs.getD i d = y := by rw [List.getD_eq_getElem?_getD, e]; rfl
      exact hs y (List.mem_of_getElem? e) H2 hE R fun H3 h3 => by
        have q := hR H3 h3
        simp only [e2] at q
        exact q
  · obtain ⟨rfl, _⟩ := hY
    exact Evl.Ex.refl _
  · refine hq p H' hp hE ?_
    rw [hL, List.length_map, map_getD]
end
/-! ### E. texts as lists of codes -/
def stxt (l : List Nat) : Str := ⟨l.toArray⟩
theorem tl_stxt (l : List Nat) : tl (stxt l) = l := rfl
theorem len_stxt (l : List Nat) : (stxt l).length = l.length := by rw [len_tl, tl_stxt]
theorem stxt_tl (z : Str) : stxt (tl z) = z := ext_tl rfl
theorem tl_cutS (z : Str) (lo hi : Option Int) : tl (cutS z lo hi) = ((tl z).drop (HT.sIx z.length 0 lo)).take (HT.sIx z.length z.length hi - HT.sIx z.length 0 lo) := rfl
theorem tl_cut_to (z : Str) {k : Int} (h : 0 ≤ k) : tl (cutS z none (some k)) = (tl z).take k.toNat := by
  obtain ⟨n, rfl⟩ := Int.eq_ofNat_of_zero_le h
  rw [tl_cutS, HT.sIx_none, HT.sIx_nat, List.drop_zero, Nat.sub_zero, Int.toNat_natCast, len_tl]
  by_cases hn : n ≤ (tl z).length
  · rw [Nat.min_eq_left hn]
  · rw [Nat.min_eq_right (by omega), List.take_of_length_le (Nat.le_refl _), List.take_of_length_le (by omega)]
theorem tl_cut_from (z : Str) {k : Int} (h : 0 ≤ k) : tl (cutS z (some k) none) = (tl z).drop k.toNat := by
  obtain ⟨n, rfl⟩ := Int.eq_ofNat_of_zero_le h
  rw [tl_cutS, HT.sIx_none, HT.sIx_nat, Int.toNat_natCast, len_tl]
  by_cases hn : n ≤ (tl z).length
  · rw [Nat.min_eq_left hn]
    exact List.take_of_length_le (by rw [List.length_drop]; omega)
  · rw [Nat.min_eq_right (by omega), List.drop_of_length_le (Nat.le_refl _), List.drop_of_length_le (by omega), List.take_nil]
theorem joinL_nil (ps : List (List Nat)) : joinL [] ps = ps.flatten := by
  induction ps with
  | nil => rfl
  | cons p r ih =>
    cases r with
    | nil => show p = [p].flatten; simp
    | cons q r =>
      show p ++ ([] ++ joinL [] (q :: r)) = _
      rw [ih]; simp
theorem tl_glue (ys : List Str) : tl (Txt.join "" ys) = (ys.map tl).flatten := by
  rw [join_eq, tl_join]
  exact joinL_nil _
/-! the first blank -/
def brk : List Nat → Option (List Nat × List Nat)
  | [] => none
  | c :: r => if c = 32 then some ([], r) else match brk r with
    | none => none
    | some (a, b) => some (c :: a, b)
/-! ### E2. more steps: texts, all, f-strings, pairs -/
section
variable {K : PySem.W.Frag} {σ : L2.St} {H : Hp} {Q : VK} {te : TE} {g : TG}
theorem g_allF {α : Type} {p : Addr} {l : List α} {b : α → Bool} (h : SqL K H p (l.map fun c => V.bl (b c))) (q : Q (.bl (l.all b)) H) : rAll K [.ref p] H Q := by
  have e : (l.map fun c => V.bl (b c)) = (l.map b).map V.bl := by rw [List.map_map]; rfl
  rw [e] at h
  refine g_all h ?_
  have e2 : (l.map b).all id = l.all b := by rw [List.all_map]; rfl
  rw [e2]
  exact q
theorem g_gtup2 {T : Addr} {x y : V} {i j : Nat} {Qs : L2.St → Hp → Prop} (h : SqT K H T [x, y]) (q : Qs ((σ.set i (some x)).set j (some y)) H) : gTup K 2 (gCons (gName i) (gCons (gName j) gNil)) (.ref T) σ H Qs :=
  ⟨T, [x, y], rfl, h, rfl, x, [y], rfl, y, [], rfl, rfl, q⟩
def rFmt (Q : VK) : VK := fun x H1 => (∃ y : Str, x = .str y ∧ y.length ≤ sizeLine ∧ Q (.str y) H1) ∨ ∃ i : Int, x = .int i ∧ i.natAbs.log2 < 1920 ∧ Q (.str (toString i)) H1
theorem g_fmt (q : te σ H (rFmt Q)) : tFmt te σ H Q := q
theorem g_fmtI {i : Int} (h : i.natAbs.log2 < 1920) (q : Q (.str (toString i)) H) : rFmt Q (.int i) H := .inr ⟨i, rfl, h, q⟩
theorem g_fmtS {z : Str} (h : z.length ≤ sizeLine) (q : Q (.str z) H) : rFmt Q (.str z) H := .inl ⟨z, rfl, h, q⟩
theorem g_jsN {acc : Str} {R : Str → Hp → Prop} (q : R acc H) : tJs [] acc σ H R := q
theorem g_jsC {t : TE} {ts : List TE} {acc : Str} {R : Str → Hp → Prop} (q : t σ H fun x H1 => ∃ y : Str, x = .str y ∧ (acc ++ y).length ≤ sizeLine ∧ tJs ts (acc ++ y) σ H1 R) : tJs (t :: ts) acc σ H R := q
theorem g_jsS {acc s : Str} {P : Str → Prop} (h : (acc ++ s).length ≤ sizeLine) (q : P s) : ∃ y, V.str s = .str y ∧ (acc ++ y).length ≤ sizeLine ∧ P y := ⟨s, rfl, h, q⟩
theorem log_small {i : Int} (h : i.natAbs < 2 ^ 64) : i.natAbs.log2 < 1920 := by
  by_cases h0 : i.natAbs = 0
  · rw [h0]; decide
  · have h1 := (Nat.log2_lt h0).mpr h
    omega
theorem len_app (a b : Str) : (a ++ b).length = a.length + b.length := by rw [len_tl, tl_append, List.length_append, ← len_tl, ← len_tl]
theorem tl_num' {i : Int} (h : 0 ≤ i) : tl (toString i : Str) = numL i.toNat := by
  obtain ⟨n, rfl⟩ := Int.eq_ofNat_of_zero_le h
  rw [Int.toNat_natCast]
  exact tl_num n
theorem len_num {i : Int} (h : 0 ≤ i) {k : Nat} (hk : 0 < k) (h1 : i.toNat < 10 ^ k) : (toString i : Str).length ≤ k := by
  rw [len_tl, tl_num' h]
  exact numL_len hk h1
end
section
variable {K : PySem.W.Frag} {H : Hp} {Q : VK} {i : Int} {z : Str} {p : Addr}
theorem g_isNi (q : Q (.bl false) H) : rIsN (.int i) .non H Q := ⟨rfl, q⟩
theorem g_isNn (q : Q (.bl true) H) : rIsN .non .non H Q := ⟨rfl, q⟩
theorem g_isNr (q : Q (.bl false) H) : rIsN (.ref p) .non H Q := ⟨rfl, q⟩
theorem g_isNs (q : Q (.bl false) H) : rIsN (.str z) .non H Q := ⟨rfl, q⟩
theorem g_ntNi (q : Q (.bl true) H) : rNotN (.int i) .non H Q := ⟨rfl, q⟩
theorem g_ntNn (q : Q (.bl false) H) : rNotN .non .non H Q := ⟨rfl, q⟩
theorem g_ntNr (q : Q (.bl true) H) : rNotN (.ref p) .non H Q := ⟨rfl, q⟩
theorem g_ntNs (q : Q (.bl true) H) : rNotN (.str z) .non H Q := ⟨rfl, q⟩
theorem at_ints {ns : List Int} {i : Int} (h0 : 0 ≤ i) (h1 : i < ns.length) : atI (ns.map V.int) i = some (.int (ns.getD i.toNat 0)) := by
  obtain ⟨n, rfl⟩ := Int.eq_ofNat_of_zero_le h0
  refine atI_nat ?_
  have hn : n < ns.length := by omega
  rw [List.getElem?_map, List.getElem?_eq_getElem hn, Int.toNat_natCast, List.getD_eq_getElem?_getD, List.getElem?_eq_getElem hn]
  rfl
end
theorem join_signs (l : List Nat) : Txt.join "" (l.map fun c => (⟨#[c]⟩ : Str)) = stxt l := by
  refine ext_tl ?_
  rw [tl_glue, tl_stxt, List.map_map]
  induction l with
  | nil => rfl
  | cons c r ih => rw [List.map_cons, List.flatten_cons, ih]; rfl
theorem len_sing (c : Nat) : (⟨#[c]⟩ : Str).length = 1 := rfl
theorem g_joinC {K : PySem.W.Frag} {H : Hp} {Q : VK} {p : Addr} {l : List Nat} (h : SqL K H p (l.map fun c => V.str ⟨#[c]⟩)) (hl : l.length ≤ 1000000) (q : Q (.str (stxt l)) H) : rJoin K (.str "") [.ref p] H Q := by
  have e : (l.map fun c => V.str ⟨#[c]⟩) = (l.map fun c => (⟨#[c]⟩ : Str)).map V.str := by rw [List.map_map]; rfl
  rw [e] at h
  refine g_join h ?_ (by rw [join_signs]; exact q)
  have e1 : ((l.map fun c => (⟨#[c]⟩ : Str)).map (·.length)).sum = l.length := by
    rw [List.map_map]
    clear h e hl q
    induction l with
    | nil => rfl
    | cons c r ih =>
      rw [List.map_cons, List.sum_cons, ih, List.length_cons]
      show 1 + r.length = r.length + 1
      omega
  rw [e1, show ("" : Str).length = 0 by decide +kernel]
  omega
theorem at_codes {l : List Nat} {i : Int} (h0 : 0 ≤ i) (h1 : i < l.length) : atI l i = some (l.getD i.toNat 0) := by
  obtain ⟨n, rfl⟩ := Int.eq_ofNat_of_zero_le h0
  refine atI_nat ?_
  have hn : n < l.length := by omega
  rw [List.getElem?_eq_getElem hn, Int.toNat_natCast, List.getD_eq_getElem?_getD, List.getElem?_eq_getElem hn]
  rfl
def repS (n : Nat) (z : Str) : Str := stxt (List.replicate n (tl z)).flatten
def rMulS : R2 := fun x y H Q => ∃ (z : Str) (n : Int), x = .str z ∧ y = .int n ∧ 0 ≤ n ∧ n ≤ 100000 ∧ z.length * n.toNat ≤ 1000000 ∧ Q (.str (repS n.toNat z)) H
theorem g_mulS {H : Hp} {Q : VK} {z : Str} {n : Int} (h : 0 ≤ n ∧ n ≤ 100000) (hz : z.length * n.toNat ≤ 1000000) (q : Q (.str (repS n.toNat z)) H) : rMulS (.str z) (.int n) H Q := ⟨z, n, rfl, rfl, h.1, h.2, hz, q⟩
theorem g_cat {H : Hp} {Q : VK} {l b : Addr} {xs zs : List V} (h : H l = some (.lst xs)) (h' : H b = some (.lst zs)) (hz : xs.length + zs.length ≤ sizeLine) (q : ∀ p, H p = none → Q (.ref p) (upd H p (.lst (xs ++ zs)))) : rCat (.ref l) (.ref b) H Q := ⟨l, b, xs, zs, rfl, rfl, h, h', hz, q⟩
theorem strOk_of {l : List Nat} (h : ∀ c ∈ l, c ≤ 1000000) : PyData.strOk (stxt l) = true := by
  unfold PyData.strOk
  simp [stxt]
  intro x hx
  have := h x hx
  omega
/-! ### F. records: the plain law -/
theorem numL_head {n : Nat} (h : 0 < n) : ∃ c r, numL n = c :: r ∧ c ≠ 48 := by
  induction n using Nat.strongRecOn with
  | _ n ih =>
    by_cases h1 : n < 10
    · exact ⟨48 + n, [], numL_lt h1, by omega⟩
    · obtain ⟨c, r, e, hc⟩ := ih (n / 10) (by omega) (by omega)
      exact ⟨c, r ++ [48 + n % 10], by rw [numL_step (by omega), e]; rfl, hc⟩
/-- the number that a part writes with at most k digits -/
def numOf (k : Int) (l : List Nat) : Option Int :=
  if 1 ≤ l.length ∧ (l.length : Int) ≤ k ∧ (∀ c ∈ l, 48 ≤ c ∧ c ≤ 57) ∧ ¬ (1 < l.length ∧ l.head? = some 48) then some ((NumText.digitsVal l : Nat) : Int) else none
theorem numOf_numL {n k : Nat} (hk : 0 < k) (h : n < 10 ^ k) : numOf k (numL n) = some (n : Int) := by
  have h1 : (numL n).length ≤ k := numL_len hk h
  have h2 : 1 ≤ (numL n).length := by
    cases e : numL n with
    | nil => exact absurd e (numL_ne n)
    | cons c r => simp
  have hz : ¬ (1 < (numL n).length ∧ (numL n).head? = some 48) := by
    rintro ⟨hl, hh⟩
    by_cases h0 : 0 < n
    · obtain ⟨c, r, e, hc⟩ := numL_head h0
      rw [e] at hh
      exact hc (Option.some.inj hh)
    · have e0 : n = 0 := by omega
      subst e0
      rw [numL_lt (by decide)] at hl
      simp at hl
  unfold numOf
  rw [if_pos ⟨h2, by omega, numL_digits n, hz⟩, numL_val]
/-! the mirror of records -/
/-! heads that are none -/
/-! ### more steps: dicts with texts as keys, isinstance, str of a part, slices of tuples -/
section
variable {X : Cx} {K : PySem.W.Frag} {H : Hp} {Q : VK} {σ : L2.St} {D : Ends}
def rIEn (K : PySem.W.Frag) (R : It → Hp → Prop) : List V → Hp → Prop := fun vs H1 => ∃ a xs, vs = [.ref a] ∧ SqL K H1 a xs ∧ R (Ite K a) H1
theorem g_iEnum {ta : TA} {R : It → Hp → Prop} (q : ta σ H (rIEn K R)) : iEnum K ta σ H R := q
theorem g_enL {R : It → Hp → Prop} {a : Addr} {xs : List V} (h : SqL K H a xs) (q : R (Ite K a) H) : rIEn K R [.ref a] H := ⟨a, xs, rfl, h, q⟩
def rListOf (K : PySem.W.Frag) : List V → Hp → VK → Prop := fun xs H Q => ∃ p ys, xs = [.ref p] ∧ (SqL K H p ys ∨ SqT K H p ys) ∧ ∀ l, H l = none → Q (.ref l) (upd H l (.lst ys))
theorem call_listK (h : X.K = K) : CallR X (.type "list") (rListOf K) := by subst h; exact call_list_of
theorem g_listL {p : Addr} {ys : List V} (h : SqL K H p ys) (q : ∀ l, H l = none → Q (.ref l) (upd H l (.lst ys))) : rListOf K [.ref p] H Q := ⟨p, ys, rfl, .inl h, q⟩
theorem g_listT {p : Addr} {ys : List V} (h : SqT K H p ys) (q : ∀ l, H l = none → Q (.ref l) (upd H l (.lst ys))) : rListOf K [.ref p] H Q := ⟨p, ys, rfl, .inr h, q⟩
theorem g_dnew (q : ∀ p, H p = none → Q (.ref p) (upd H p (.dK []))) : tDNewK σ H Q := q
def rDIn : V → V → Hp → VK → Prop := fun y x H Q => ∃ a o, x = .ref a ∧ DGet H a y o ∧ Q (.bl o.isSome) H
theorem g_din {ty td : TE} (q : ty σ H fun y H1 => td σ H1 fun x H2 => rDIn y x H2 Q) : tDIn ty td σ H Q := q
def rDNin : V → V → Hp → VK → Prop := fun y x H Q => ∃ a o, x = .ref a ∧ DGet H a y o ∧ Q (.bl (!o.isSome)) H
theorem g_dnin {ty td : TE} (q : ty σ H fun y H1 => td σ H1 fun x H2 => rDNin y x H2 Q) : tDNotIn ty td σ H Q := q
theorem g_dinS {a : Addr} {kvs : List (Key × V)} {z : Str} (h : H a = some (.dK kvs)) (q : Q (.bl (valV kvs (Sum.inr z)).isSome) H) : rDIn (.str z) (.ref a) H Q := ⟨a, _, rfl, DGet.k (k := Sum.inr z) h, q⟩
theorem g_dninS {a : Addr} {kvs : List (Key × V)} {z : Str} (h : H a = some (.dK kvs)) (q : Q (.bl (!(valV kvs (Sum.inr z)).isSome)) H) : rDNin (.str z) (.ref a) H Q := ⟨a, _, rfl, DGet.k (k := Sum.inr z) h, q⟩
def rDPut (D : Ends) (σ : L2.St) : V → V → V → Hp → Prop := fun v x y H3 => ∃ a H4, x = .ref a ∧ DPut H3 a y v H4 ∧ D.nx σ H4
theorem g_dput {td ty tv : TE} (q : tv σ H fun v H1 => td σ H1 fun x H2 => ty σ H2 fun y H3 => rDPut D σ v x y H3) : sDPut td ty tv D σ H := q
theorem g_dputS {a : Addr} {kvs : List (Key × V)} {z : Str} {v : V} (h : H a = some (.dK kvs)) (hz : kvs.length < sizeLine) (q : D.nx σ (upd H a (.dK (putK kvs (Sum.inr z) v)))) : rDPut D σ v (.ref a) (.str z) H :=
  ⟨a, _, rfl, DPut.k (k := Sum.inr z) h hz, q⟩
theorem g_eqB {b c : Bool} (q : Q (.bl (decide (b = c))) H) : rEq (.bl b) (.bl c) H Q := ⟨rfl, by
  have e : decide (V.bl b = V.bl c) = decide (b = c) := by rw [Bool.eq_iff_iff]; simp
  rw [e]; exact q⟩
theorem g_neB {b c : Bool} (q : Q (.bl (!decide (b = c))) H) : rNe (.bl b) (.bl c) H Q := ⟨rfl, by
  have e : decide (V.bl b = V.bl c) = decide (b = c) := by rw [Bool.eq_iff_iff]; simp
  rw [e]; exact q⟩
theorem kit_str_str : kitB "str" "str" = some true := by decide +kernel
theorem kit_str_int : kitB "str" "int" = some false := by decide +kernel
theorem kit_str_bool : kitB "str" "bool" = some false := by decide +kernel
theorem kit_str_tuple : kitB "str" "tuple" = some false := by decide +kernel
theorem kit_str_list : kitB "str" "list" = some false := by decide +kernel
theorem kit_str_dict : kitB "str" "dict" = some false := by decide +kernel
theorem kit_int_str : kitB "int" "str" = some false := by decide +kernel
theorem kit_int_int : kitB "int" "int" = some true := by decide +kernel
theorem kit_int_bool : kitB "int" "bool" = some false := by decide +kernel
theorem kit_int_tuple : kitB "int" "tuple" = some false := by decide +kernel
theorem kit_int_list : kitB "int" "list" = some false := by decide +kernel
theorem kit_int_dict : kitB "int" "dict" = some false := by decide +kernel
theorem kit_bool_str : kitB "bool" "str" = some false := by decide +kernel
theorem kit_bool_int : kitB "bool" "int" = some true := by decide +kernel
theorem kit_bool_bool : kitB "bool" "bool" = some true := by decide +kernel
theorem kit_bool_tuple : kitB "bool" "tuple" = some false := by decide +kernel
theorem kit_bool_list : kitB "bool" "list" = some false := by decide +kernel
theorem kit_bool_dict : kitB "bool" "dict" = some false := by decide +kernel
theorem kit_NoneType_str : kitB "NoneType" "str" = some false := by decide +kernel
theorem kit_NoneType_int : kitB "NoneType" "int" = some false := by decide +kernel
theorem kit_NoneType_bool : kitB "NoneType" "bool" = some false := by decide +kernel
theorem kit_NoneType_tuple : kitB "NoneType" "tuple" = some false := by decide +kernel
theorem kit_NoneType_list : kitB "NoneType" "list" = some false := by decide +kernel
theorem kit_NoneType_dict : kitB "NoneType" "dict" = some false := by decide +kernel
theorem kit_tuple_str : kitB "tuple" "str" = some false := by decide +kernel
theorem kit_tuple_int : kitB "tuple" "int" = some false := by decide +kernel
theorem kit_tuple_bool : kitB "tuple" "bool" = some false := by decide +kernel
theorem kit_tuple_tuple : kitB "tuple" "tuple" = some true := by decide +kernel
theorem kit_tuple_list : kitB "tuple" "list" = some false := by decide +kernel
theorem kit_tuple_dict : kitB "tuple" "dict" = some false := by decide +kernel
theorem kit_list_str : kitB "list" "str" = some false := by decide +kernel
theorem kit_list_int : kitB "list" "int" = some false := by decide +kernel
theorem kit_list_bool : kitB "list" "bool" = some false := by decide +kernel
theorem kit_list_tuple : kitB "list" "tuple" = some false := by decide +kernel
theorem kit_list_list : kitB "list" "list" = some true := by decide +kernel
theorem kit_list_dict : kitB "list" "dict" = some false := by decide +kernel
/-- isinstance(x, T), T a built-in class -/
def rInst (K : PySem.W.Frag) : List V → Hp → VK → Prop := fun xs H Q => ∃ (x : V) (t n : String) (b : Bool), xs = [x, .ty n] ∧ TyX K H x (.type t) ∧ kitB t n = some b ∧ Q (.bl b) H
theorem call_instK (h : X.K = K) : CallR X (.builtin "isinstance") (rInst K) := by
  subst h
  intro pins s σ H xs us Q I r ⟨x, t, n, b, e, ty, k, q⟩
  exact call_isi pins s σ H xs us Q I r ⟨x, .ty n, .type t, .type n, b, e, .ty n, ty, kit_ty k, q⟩
theorem g_instS {z : Str} {n : String} {b : Bool} (k : kitB "str" n = some b) (q : Q (.bl b) H) : rInst K [.str z, .ty n] H Q := ⟨_, _, n, b, rfl, .base (.str z), k, q⟩
theorem g_instI {i : Int} {n : String} {b : Bool} (k : kitB "int" n = some b) (q : Q (.bl b) H) : rInst K [.int i, .ty n] H Q := ⟨_, _, n, b, rfl, .base (.int i), k, q⟩
theorem g_instB {i : Bool} {n : String} {b : Bool} (k : kitB "bool" n = some b) (q : Q (.bl b) H) : rInst K [.bl i, .ty n] H Q := ⟨_, _, n, b, rfl, .base (.bl i), k, q⟩
theorem g_instN {n : String} {b : Bool} (k : kitB "NoneType" n = some b) (q : Q (.bl b) H) : rInst K [.non, .ty n] H Q := ⟨_, _, n, b, rfl, .base .non, k, q⟩
theorem g_instT {p : Addr} {xs : List V} {n : String} {b : Bool} (h : SqT K H p xs) (k : kitB "tuple" n = some b) (q : Q (.bl b) H) : rInst K [.ref p, .ty n] H Q := by
  refine ⟨_, "tuple", n, b, rfl, ?_, k, q⟩
  rcases h with (h | ⟨o, h⟩) | ⟨o, its, m, h, hc, _⟩
  · exact .base (.tup h)
  · exact .fTuple h
  · exact .kTuple h hc
theorem g_instL {p : Addr} {xs : List V} {n : String} {b : Bool} (h : SqL K H p xs) (k : kitB "list" n = some b) (q : Q (.bl b) H) : rInst K [.ref p, .ty n] H Q := by
  refine ⟨_, "list", n, b, rfl, ?_, k, q⟩
  rcases h with (h | ⟨o, h⟩) | ⟨o, its, m, h, hc, _⟩
  · exact .base (.lst h)
  · exact .base (.frz h)
  · exact .kList h hc
def partS : V → Str
  | .str s => s
  | .int i => toString i
  | _ => ""
/-- a part of an entry: a plain text or a number of at most ten digits -/
def IsPart (v : V) : Prop := (∃ z : Str, v = .str z ∧ z.length ≤ 20 ∧ ∀ c ∈ tl z, 33 ≤ c ∧ c ≤ 126) ∨ ∃ i : Int, v = .int i ∧ 0 ≤ i ∧ i ≤ 9999999999
theorem IsPart.len {v : V} (h : IsPart v) : (partS v).length ≤ 20 := by
  rcases h with ⟨z, rfl, hz, _⟩ | ⟨i, rfl, h0, h1⟩
  · exact hz
  · exact Nat.le_trans (len_num (k := 10) h0 (by decide) (by omega)) (by decide)
theorem IsPart.plain {v : V} (h : IsPart v) : ∀ c ∈ tl (partS v), 33 ≤ c ∧ c ≤ 126 := fun c hc => by
  rcases h with ⟨z, rfl, _, hz⟩ | ⟨i, rfl, h0, h1⟩
  · exact hz c hc
  · have hc' : c ∈ tl (toString i : Str) := hc
    rw [tl_num' h0] at hc'
    have := numL_digits _ c hc'
    omega
theorem g_slT {p : Addr} {xs : List V} {lo hi : Option Int} (h : SqT K H p xs) (hw : ¬ (HT.sIx xs.length 0 lo = 0 ∧ HT.sIx xs.length xs.length hi = xs.length)) (q : ∀ p, H p = none → Q (.ref p) (upd H p (.tup (cutV xs lo hi)))) : rSlT K (.ref p) lo hi H Q :=
  ⟨p, xs, rfl, h, hw, q⟩
theorem g_slT1 {p : Addr} {v w : V} {r : List V} (h : SqT K H p (v :: w :: r)) (q : ∀ p, H p = none → Q (.ref p) (upd H p (.tup [v]))) : rSlT K (.ref p) none (some 1) H Q := by
  refine g_slT h (fun z => ?_) (fun p hp => ?_)
  · have h2 := z.2
    rw [show (1 : Int) = ((1 : Nat) : Int) from rfl, HT.sIx_nat, List.length_cons, List.length_cons] at h2
    omega
  · have e : cutV (v :: w :: r) none (some 1) = [v] := by rw [cutV_to _ (by decide)]; rfl
    rw [e]; exact q p hp
theorem g_slTt {p : Addr} {v : V} {r : List V} (h : SqT K H p (v :: r)) (q : ∀ p, H p = none → Q (.ref p) (upd H p (.tup r))) : rSlT K (.ref p) (some 1) none H Q := by
  refine g_slT h (fun z => ?_) (fun p hp => ?_)
  · have h2 := z.1
    rw [show (1 : Int) = ((1 : Nat) : Int) from rfl, HT.sIx_nat, List.length_cons] at h2
    omega
  · have e : cutV (v :: r) (some 1) none = r := by rw [cutV_from _ (by decide)]; rfl
    rw [e]; exact q p hp
theorem g_neSame {x y : V} (d : PyData) (h1 : Dp K H x d) (h2 : Dp K H y d) (s1 : SeqAt.shaped d = true) (q : Q (.bl false) H) : rNeD K x y H Q := ⟨d, d, h1, h2, s1, s1, by rw [SeqAt.eqv_refl _ (SeqAt.canLay_of_shaped s1)]; exact q⟩
theorem sqT_upd {l p : Addr} {xs vs : List V} {o : HO} (hl : H l = some (.lst xs)) (h : SqT K H p vs) : SqT K (upd H l o) p vs := by
  rcases h with (h | ⟨o', h⟩) | h
  · exact .inl (.inl (by rw [upd_ne (fun e => by rw [e, hl] at h; cases h)]; exact h))
  · exact .inl (.inr ⟨o', by rw [upd_ne (fun e => by rw [e, hl] at h; cases h)]; exact h⟩)
  · exact .inr h
theorem sqT_updD {l p : Addr} {kvs : List (Key × V)} {vs : List V} {o : HO} (hl : H l = some (.dK kvs)) (h : SqT K H p vs) : SqT K (upd H l o) p vs := by
  rcases h with (h | ⟨o', h⟩) | h
  · exact .inl (.inl (by rw [upd_ne (fun e => by rw [e, hl] at h; cases h)]; exact h))
  · exact .inl (.inr ⟨o', by rw [upd_ne (fun e => by rw [e, hl] at h; cases h)]; exact h⟩)
  · exact .inr h
end
/-! ### a comprehension over a tuple -/
section
variable {K : PySem.W.Frag} {H : Hp} {Q : VK} {σ : L2.St} {g : TG} {te : TE} {vs : List Nat}
theorem lc_tup {a : Addr} {xs : List V} (f : V → V) (hS : SqT K H a xs) (hn : xs.length ≤ 1000000)
    (hs : ∀ x ∈ xs, ∀ H1, Ex H H1 → ∀ R : VK, (∀ H3, Ex H1 H3 → R (f x) H3) → g x (wipe σ vs) H1 fun σ2 H3 => wipe σ2 vs = wipe σ vs ∧ te σ2 H3 R)
    (hq : ∀ p H', H p = none → Ex H H' → H' p = some (.lst (xs.map f)) → Q (.ref p) H') : LcOk (Itt K a) g tYes te vs Q σ H := by
  refine lc_pure (walk_tup (xs := xs)) (fun i => f (xs.getD i .non)) (fits_lt hn) (fun H' e => ex_sqT e hS) (fun i x H1 H2 hi hE hY R hR => ?_) (fun i H1 x H2 hY => ?_) (fun p H' hp hE hL => ?_)
  · obtain ⟨rfl, hx⟩ := hY
    have e2 : xs.getD i .non = x := by rw [List.getD_eq_getElem?_getD, hx]; rfl
    exact hs x (List.mem_of_getElem? hx) H2 hE R fun H3 h3 => by
      have q := hR H3 h3
      simp only [e2] at q
      exact q
  · obtain ⟨rfl, _⟩ := hY
    exact Evl.Ex.refl _
  · refine hq p H' hp hE ?_
    rw [hL, map_getD]
end
/-! ### the plain law of entries -/
inductive Ent where
  | ask (k g : Str) (c m : Int)
  | rel (k : Str) (m : Int)
namespace Ent
def vs : Ent → List V
  | .ask k g c m => [.str "ask", .str k, .str g, .int c, .int m]
  | .rel k m => [.str "release", .str k, .int m]
def key : Ent → Str
  | .ask k _ _ _ => k
  | .rel k _ => k
def mom : Ent → Int
  | .ask _ _ _ m => m
  | .rel _ m => m
def isAsk : Ent → Bool
  | .ask _ _ _ _ => true
  | .rel _ _ => false
def line (e : Ent) : Str := Txt.join " " (e.vs.map partS)
def data : Ent → PyData
  | .ask k g c m => .tuple [.str "ask", .str k, .str g, .int c, .int m]
  | .rel k m => .tuple [.str "release", .str k, .int m]
end Ent
def inLet (c : Nat) : Bool := decide (c ∈ ("abcdefghijklmnopqrstuvwxyz0123456789" : Str).cps.toList)
def isName (z : Str) : Bool := decide (1 ≤ (z.length : Int)) && decide ((z.length : Int) ≤ 12) && (tl z).all inLet
def isKey (z : Str) : Bool := decide (1 ≤ (z.length : Int)) && decide ((z.length : Int) ≤ 20) && (tl z).all fun c => inLet c || decide (c = 45)
theorem inLet_plain {c : Nat} (h : inLet c = true) : 33 ≤ c ∧ c ≤ 126 := by
  have h1 : ∀ c ∈ ("abcdefghijklmnopqrstuvwxyz0123456789" : Str).cps.toList, 33 ≤ c ∧ c ≤ 126 := by decide +kernel
  exact h1 c (of_decide_eq_true h)
theorem isName_part {z : Str} (h : isName z = true) : IsPart (.str z) := by
  unfold isName at h
  rw [Bool.and_eq_true, Bool.and_eq_true] at h
  have h1 := of_decide_eq_true h.1.2
  exact .inl ⟨z, rfl, by omega, fun c hc => inLet_plain (List.all_eq_true.mp h.2 c hc)⟩
theorem isKey_part {z : Str} (h : isKey z = true) : IsPart (.str z) := by
  unfold isKey at h
  rw [Bool.and_eq_true, Bool.and_eq_true] at h
  have h1 := of_decide_eq_true h.1.2
  refine .inl ⟨z, rfl, by omega, fun c hc => ?_⟩
  have h2 := List.all_eq_true.mp h.2 c hc
  rw [Bool.or_eq_true] at h2
  rcases h2 with h2 | h2
  · exact inLet_plain h2
  · have := of_decide_eq_true h2; omega
def Ent.ok : Ent → Bool
  | .ask k g c m => isKey k && (isName g && ((decide (1 ≤ c) && decide (c ≤ 1000)) && (decide (0 ≤ m) && decide (m ≤ 1000000000))))
  | .rel k m => isKey k && (decide (0 ≤ m) && decide (m ≤ 1000000000))
/-- a row: each entry is one, at moments that don't fall, keys asked once and released when asked -/
def lastM (es : List Ent) : Int := (es.getLast?.map Ent.mom).getD 0
def Row (es : List Ent) : Prop := ∀ i e, es[i]? = some e → e.ok = true ∧ lastM (es.take i) ≤ e.mom ∧ (e.isAsk = true ↔ e.key ∉ (es.take i).map Ent.key)
theorem Row.nil : Row [] := fun i e h => by simp at h
theorem Row.take {es : List Ent} (h : Row es) (n : Nat) : Row (es.take n) := fun i e hi => by
  have h1 : i < n ∧ es[i]? = some e := by
    rw [List.getElem?_take] at hi
    by_cases hn : i < n
    · rw [if_pos hn] at hi; exact ⟨hn, hi⟩
    · rw [if_neg hn] at hi; cases hi
  rw [List.take_take, Nat.min_eq_left (Nat.le_of_lt h1.1)]
  exact h i e h1.2
theorem Row.snoc {es : List Ent} (h : Row es) {e : Ent} (h1 : e.ok = true) (h2 : lastM es ≤ e.mom) (h3 : e.isAsk = true ↔ e.key ∉ es.map Ent.key) : Row (es ++ [e]) := fun i x hi => by
  rcases Nat.lt_trichotomy i es.length with hl | hl | hl
  · rw [List.getElem?_append_left hl] at hi
    rw [List.take_append_of_le_length (Nat.le_of_lt hl)]
    exact h i x hi
  · subst hl
    rw [List.getElem?_append_right (Nat.le_refl _), Nat.sub_self] at hi
    cases hi
    rw [List.take_append_of_le_length (Nat.le_refl _), List.take_of_length_le (Nat.le_refl _)]
    exact ⟨h1, h2, h3⟩
  · rw [List.getElem?_eq_none (by rw [List.length_append]; simp; omega)] at hi
    cases hi
theorem Row.ok {es : List Ent} (h : Row es) : ∀ e ∈ es, e.ok = true := fun e he => by
  obtain ⟨i, hi, e1⟩ := List.mem_iff_getElem.mp he
  exact (h i e (by rw [List.getElem?_eq_getElem hi, e1])).1
/-- the list of entries stands in the heap -/
def RowAt (K : PySem.W.Frag) (H : Hp) (l : Addr) (xs : List (Addr × Ent)) : Prop := SqL K H l (xs.map fun x => V.ref x.1) ∧ ∀ x ∈ xs, SqT K H x.1 x.2.vs
theorem RowAt.mono {K : PySem.W.Frag} {H H' : Hp} {l : Addr} {xs : List (Addr × Ent)} (h : RowAt K H l xs) (e : Ex H H') : RowAt K H' l xs := ⟨ex_sqL e h.1, fun x hx => ex_sqT e (h.2 x hx)⟩
theorem num_back {i : Int} {k : Nat} (h0 : 0 ≤ i) (hk : 0 < k) (h1 : i.toNat < 10 ^ k) : numOf k (tl (toString i : Str)) = some i := by
  rw [tl_num' h0, numOf_numL hk h1, Int.toNat_of_nonneg h0]
theorem part_ok {v : V} (h : IsPart v) : PyData.strOk (partS v) = true := by
  have e : partS v = stxt (tl (partS v)) := (stxt_tl _).symm
  rw [e]
  exact strOk_of fun c hc => by have := h.plain c hc; omega
/-! the drawn keys and groups -/
def keyOf (k j : Nat) : Str := "k" ++ (toString ((k : Nat) : Int) : Str) ++ (["", "-x", "y"].getD j "" : Str)
/-! ### steps of defs that raise -/
section
variable {K : PySem.W.Frag} {H : Hp} {Q : VK} {σ : L2.St} {D : Ends} {C C2 a dd : Addr} {f : Str} {W Wout : WX} {v : V} {fs : List (Str × V)} {cls c : Value} {d : Option Addr} {ts : Addr → Value → Option Addr → TS}
def rRaise (C : Addr) (f : Str) (W : WX) (σ : L2.St) : List V → Hp → Prop := fun vs H1 => ∃ v, vs = [v] ∧ ∀ d, H1 d = none → W (.ref C) (some d) σ (upd H1 d (.xd [(f, v)]))
theorem g_raise {ta : TA} (q : ta σ H (rRaise C f W σ)) : tRaise C f W ta D σ H := q
theorem g_raise1 (q : ∀ d, H d = none → W (.ref C) (some d) σ (upd H d (.xd [(f, v)]))) : rRaise C f W σ [v] H := ⟨v, rfl, q⟩
theorem g_callS {sp : Sp} {E : L2.St → XK} {t : TA} (q : t σ H fun vs H1 => sp vs H1 Q (E σ)) : tCallS sp E t σ H Q := q
theorem g_as {i : Nat} (he : PySem.W.exmOne K cls c = some true) (q : ∀ a, H a = none → ts a cls d { nx := fun σ' H' => D.nx (σ'.set i none) H', rt := D.rt, bk := fun σ' H' => D.bk (σ'.set i none) H', ct := fun σ' H' => D.ct (σ'.set i none) H' } (σ.set i (some (.ref a))) H) :
    WE (wAs K c i ts Wout D) σ cls d H := ⟨true, he, fun _ => q, fun z => nomatch z⟩
def rXf (a : Addr) (cls : Value) (d : Option Addr) (C : Addr) (f : Str) : V → Hp → VK → Prop := fun x H1 Q => x = .ref a ∧ cls = .ref C ∧ ∃ (dd : Addr) (fs : List (Str × V)) (v : V), d = some dd ∧ H1 dd = some (.xd fs) ∧ fs.lookup f = some v ∧ Q v H1
theorem g_xf {te : TE} (q : te σ H fun x H1 => rXf a cls d C f x H1 Q) : tXf a cls d C f te σ H Q := q
theorem g_xf1 (hd : H dd = some (.xd fs)) (hl : fs.lookup f = some v) (q : Q v H) : rXf a (.ref C) (some dd) C f (.ref a) H Q := ⟨rfl, rfl, dd, fs, v, rfl, hd, hl, q⟩
theorem g_isED {b : Bool} (hk : PySem.W.kitOne K (.ref C) (.ref C2) = some b) (hd : H dd = some (.xd fs)) (q : Q (.bl b) H) : rIsED K C a (.ref C) (some dd) [.ref a, .ref C2] H Q :=
  ⟨.ref C2, .ref C2, b, dd, fs, rfl, rfl, (fun u r => r), hk, rfl, hd, q⟩
end
section
variable {H : Hp} {Q : VK} {σ : L2.St}
theorem g_repl1 {to : TE} {y z : Str} (q : to σ H fun v H1 => rRepl1 y z v H1 Q) : tRepl1 to y z σ H Q := q
end
/-! ### spoilt lines of entries -/
/-! ### rows and texts of the law -/
theorem Row.cons {e0 : Ent} {es : List Ent} (h : Row es) (h0 : e0.ok = true) (ha : e0.isAsk = true) (hm : e0.mom = 0) (hk : e0.key ∉ es.map Ent.key) : Row (e0 :: es) := fun i e hi => by
  cases i with
  | zero =>
    cases hi
    exact ⟨h0, by rw [hm]; exact Int.le_refl _, fun _ => by simp, fun _ => ha⟩
  | succ i =>
    rw [List.getElem?_cons_succ] at hi
    obtain ⟨a, b, c⟩ := h i e hi
    have hke : e.key ≠ e0.key := fun z => hk (z ▸ List.mem_map_of_mem (List.mem_of_getElem? hi))
    refine ⟨a, ?_, ?_⟩
    · rw [List.take_succ_cons]
      cases hl : es.take i with
      | nil =>
        have e1 : lastM [e0] = e0.mom := rfl
        rw [e1, hm]
        rw [hl] at b
        exact b
      | cons x r =>
        have e1 : lastM (e0 :: x :: r) = lastM (x :: r) := by unfold lastM; rw [List.getLast?_cons_cons]
        rw [e1, ← hl]
        exact b
    · rw [List.take_succ_cons, List.map_cons, List.mem_cons, not_or, c]
      exact ⟨fun z => ⟨hke, z⟩, fun z => z.2⟩
theorem j5 (a b c d e : List Nat) : joinL [32] [a, b, c, d, e] = a ++ 32 :: (b ++ 32 :: (c ++ 32 :: (d ++ 32 :: e))) := by simp [joinL]
theorem j3 (a b c : List Nat) : joinL [32] [a, b, c] = a ++ 32 :: (b ++ 32 :: c) := by simp [joinL]
/-! ### entries of any parts -/
def RowV (K : PySem.W.Frag) (H : Hp) (l : Addr) (xs : List (Addr × List V)) : Prop := SqL K H l (xs.map fun x => V.ref x.1) ∧ ∀ x ∈ xs, SqT K H x.1 x.2
theorem RowV.mono {K : PySem.W.Frag} {H H' : Hp} {l : Addr} {xs : List (Addr × List V)} (h : RowV K H l xs) (e : Ex H H') : RowV K H' l xs := ⟨ex_sqL e h.1, fun x hx => ex_sqT e (h.2 x hx)⟩
section
variable {K : PySem.W.Frag} {σ : L2.St} {H : Hp} {Q : VK} {te : TE} {g : TG} {vs : List Nat}
theorem lc_filt {α : Type} {a : Addr} {xs : List α} {tt : TT} (enc : α → V) (p : α → Bool) (f : α → V) (hS : SqL K H a (xs.map enc)) (hn : xs.length ≤ 1000000)
    (hs : ∀ x ∈ xs, ∀ H1, Ex H H1 → ∀ (R : VK) (N : Hp → Prop), (p x = true → ∀ H3, Ex H1 H3 → R (f x) H3) → (p x = false → ∀ H3, Ex H1 H3 → N H3) → g (enc x) (wipe σ vs) H1 fun σ2 H3 => wipe σ2 vs = wipe σ vs ∧ tt σ2 H3 fun b H4 => if b = true then te σ2 H4 R else N H4)
    (hq : ∀ p' H', H p' = none → Ex H H' → H' p' = some (.lst ((xs.filter p).map f)) → Q (.ref p') H') : LcOk (Itl K a) g tt te vs Q σ H := by
  intro D hD
  refine lc_it (walk_list (xs := xs.map enc)) (fun i H' => Ex H H' ∧ H' D = some (.lst (((xs.take i).filter p).map f))) ⟨Evl.Ex.new hD, upd_same⟩ (fun i H' _ h => ex_sqL h.1 hS) (fun i x H1 H2 hi hP hY => ?_) (fun H' h => ?_)
  · obtain ⟨hE, hL⟩ := hP
    obtain ⟨rfl, hx⟩ := hY
    rw [List.getElem?_map] at hx
    cases e : xs[i]? with
    | none => rw [e] at hx; cases hx
    | some y =>
      rw [e] at hx
      have ex : enc y = x := Option.some.inj hx
      subst ex
      have hT : xs.take (i + 1) = xs.take i ++ [y] := by rw [List.take_add_one, e]; rfl
      refine hs y (List.mem_of_getElem? e) _ hE _ _ (fun hp H3 e3 => ?_) (fun hp H3 e3 => ?_)
      · refine ⟨_, e3 _ _ hL, ?_, Evl.Ex.mut (hE.trans e3) hD, ?_⟩
        · refine fits_lt ?_
          rw [List.length_map]
          have := List.length_filter_le p (xs.take i)
          rw [List.length_take] at this
          omega
        · rw [upd_same, hT, List.filter_append, List.map_append]
          simp [hp]
      · refine ⟨hE.trans e3, ?_⟩
        rw [e3 _ _ hL, hT, List.filter_append]
        simp [hp]
  · exact hq D H' hD h.1 (by rw [h.2, List.length_map, List.take_of_length_le (Nat.le_refl _)])
end
/-! ### several except clauses, some of them with a name -/
abbrev SuT := Addr → Value → Option Addr → TS
section
variable {K : PySem.W.Frag} {Wo : WX} {D : Ends} {l : List (Value × Option Nat × SuT)} {ρ : L2.St} {cl c : Value} {d : Option Addr} {G : Hp} {ts : SuT}
/-- an own error class without __init__ -/
structure PlainTxt (K : PySem.W.Frag) (mg : Str → Option Value) (name : Str) (C : Addr) : Prop where
  gC : mg name = some (.ref C)
  xC : PySem.W.excIn K C [.type "ValueError", .type "Exception", .type "BaseException", .type "object"] "ValueError.__new__" = true
  kC : PySem.W.keepIn K (.ref C) = true
  bC : PySem.W.subIn K (.ref C) (.type "BaseException") = some true
  tC : PySem.W.typeIn K (.ref C) = some (.type "type")
  te : PySem.W.exmOne K (.ref C) (.ref C) = some true
end
/-! ### views: steps and plain law -/
section
variable {X : Cx} {K : PySem.W.Frag}
def rTupOf (K : PySem.W.Frag) : List V → Hp → VK → Prop := fun xs H Q => ∃ p ys, xs = [V.ref p] ∧ ((SqL K H p ys ∧ ∀ l, H l = none → Q (.ref l) (upd H l (.tup ys))) ∨ (SqT K H p ys ∧ Q (.ref p) H))
theorem call_tupK (h : X.K = K) : CallR X (.type "tuple") (rTupOf K) := by subst h; exact call_tuple_of
variable {H : Hp} {Q : VK} {p : Addr} {z : Str} {zs : List Str}
theorem g_tupL {ys : List V} (h : SqL K H p ys) (q : ∀ l, H l = none → Q (.ref l) (upd H l (.tup ys))) : rTupOf K [.ref p] H Q := ⟨p, ys, rfl, .inl ⟨h, q⟩⟩
theorem flat_strs : (zs.map V.str).all flatV = true := by
  rw [List.all_eq_true]
  intro x hx
  obtain ⟨y, _, rfl⟩ := List.mem_map.mp hx
  rfl
theorem inV_strs : inV (.str z) (zs.map V.str) = decide (z ∈ zs) := by
  unfold inV
  rw [Bool.eq_iff_iff, List.any_eq_true, decide_eq_true_eq]
  constructor
  · rintro ⟨x, hx, he⟩
    obtain ⟨y, hy, rfl⟩ := List.mem_map.mp hx
    have e : y = z := eq_of_beq he
    rw [← e]; exact hy
  · intro h
    exact ⟨.str z, List.mem_map_of_mem h, beq_self_eq_true z⟩
theorem g_inL (h : SqL K H p (zs.map V.str)) (q : Q (.bl (decide (z ∈ zs))) H) : rIn K false (.str z) (.ref p) H Q := ⟨p, _, rfl, .inl h, rfl, flat_strs, by rw [inV_strs]; exact q⟩
theorem g_ninL (h : SqL K H p (zs.map V.str)) (q : Q (.bl (!decide (z ∈ zs))) H) : rIn K true (.str z) (.ref p) H Q := ⟨p, _, rfl, .inl h, rfl, flat_strs, by rw [inV_strs]; exact q⟩
theorem g_inT (h : SqT K H p (zs.map V.str)) (q : Q (.bl (decide (z ∈ zs))) H) : rIn K false (.str z) (.ref p) H Q := ⟨p, _, rfl, .inr h, rfl, flat_strs, by rw [inV_strs]; exact q⟩
theorem g_ninT (h : SqT K H p (zs.map V.str)) (q : Q (.bl (!decide (z ∈ zs))) H) : rIn K true (.str z) (.ref p) H Q := ⟨p, _, rfl, .inr h, rfl, flat_strs, by rw [inV_strs]; exact q⟩
end
def ViewAt (K : PySem.W.Frag) (H : Hp) (p : Addr) (n : Int) (zs : List Str) : Prop := ∃ q, SqT K H p [.int n, .ref q] ∧ SqT K H q (zs.map V.str)
theorem ViewAt.mono {K : PySem.W.Frag} {H H' : Hp} {p : Addr} {n : Int} {zs : List Str} (h : ViewAt K H p n zs) (e : Ex H H') : ViewAt K H' p n zs := by
  obtain ⟨q, h1, h2⟩ := h
  exact ⟨q, ex_sqT e h1, ex_sqT e h2⟩
section
variable {K : PySem.W.Frag} {σ : L2.St} {H : Hp} {Q : VK} {te : TE} {g : TG} {vs : List Nat}
theorem lc_filtT {α : Type} {a : Addr} {xs : List α} {tt : TT} (enc : α → V) (p : α → Bool) (f : α → V) (hS : SqT K H a (xs.map enc)) (hn : xs.length ≤ 1000000)
    (hs : ∀ x ∈ xs, ∀ H1, Ex H H1 → ∀ (R : VK) (N : Hp → Prop), (p x = true → ∀ H3, Ex H1 H3 → R (f x) H3) → (p x = false → ∀ H3, Ex H1 H3 → N H3) → g (enc x) (wipe σ vs) H1 fun σ2 H3 => wipe σ2 vs = wipe σ vs ∧ tt σ2 H3 fun b H4 => if b = true then te σ2 H4 R else N H4)
    (hq : ∀ p' H', H p' = none → Ex H H' → H' p' = some (.lst ((xs.filter p).map f)) → Q (.ref p') H') : LcOk (Itt K a) g tt te vs Q σ H := by
  intro D hD
  refine lc_it (walk_tup (xs := xs.map enc)) (fun i H' => Ex H H' ∧ H' D = some (.lst (((xs.take i).filter p).map f))) ⟨Evl.Ex.new hD, upd_same⟩ (fun i H' _ h => ex_sqT h.1 hS) (fun i x H1 H2 hi hP hY => ?_) (fun H' h => ?_)
  · obtain ⟨hE, hL⟩ := hP
    obtain ⟨rfl, hx⟩ := hY
    rw [List.getElem?_map] at hx
    cases e : xs[i]? with
    | none => rw [e] at hx; cases hx
    | some y =>
      rw [e] at hx
      have ex : enc y = x := Option.some.inj hx
      subst ex
      have hT : xs.take (i + 1) = xs.take i ++ [y] := by rw [List.take_add_one, e]; rfl
      refine hs y (List.mem_of_getElem? e) _ hE _ _ (fun hp H3 e3 => ?_) (fun hp H3 e3 => ?_)
      · refine ⟨_, e3 _ _ hL, ?_, Evl.Ex.mut (hE.trans e3) hD, ?_⟩
        · refine fits_lt ?_
          rw [List.length_map]
          have := List.length_filter_le p (xs.take i)
          rw [List.length_take] at this
          omega
        · rw [upd_same, hT, List.filter_append, List.map_append]
          simp [hp]
      · refine ⟨hE.trans e3, ?_⟩
        rw [e3 _ _ hL, hT, List.filter_append]
        simp [hp]
  · exact hq D H' hD h.1 (by rw [h.2, List.length_map, List.take_of_length_le (Nat.le_refl _)])
end
/-! ### tuples that are known to have no dict: their methods -/
def Dn (H : Hp) (p : Addr) : Prop := ∃ o u, H p = some (.frz o u) ∧ o.cls = .type "tuple" ∧ o.dict = none
theorem ex_dn {H H' : Hp} {p : Addr} (e : Ex H H') (h : Dn H p) : Dn H' p := by
  obtain ⟨o, u, h1, h2⟩ := h
  exact ⟨o, u, e p _ h1, h2⟩
def ViewF (K : PySem.W.Frag) (H : Hp) (p : Addr) (n : Int) (zs : List Str) : Prop := ∃ q, SqT K H p [.int n, .ref q] ∧ SqT K H q (zs.map V.str) ∧ Dn H q
theorem ViewF.mono {K : PySem.W.Frag} {H H' : Hp} {p : Addr} {n : Int} {zs : List Str} (h : ViewF K H p n zs) (e : Ex H H') : ViewF K H' p n zs := by
  obtain ⟨q, h1, h2, h3⟩ := h
  exact ⟨q, ex_sqT e h1, ex_sqT e h2, ex_dn e h3⟩
/-! names made of a base -/
theorem name_len {z : Str} (h : isName z = true) : z.length ≤ 12 := by
  unfold isName at h
  rw [Bool.and_eq_true, Bool.and_eq_true] at h
  have := of_decide_eq_true h.1.2
  omega
theorem strs_shaped {zs : List Str} (h : ∀ z ∈ zs, PyData.strOk z = true) : PyData.canLayAll0 (zs.map PyData.str) = true ∧ PyData.depthAll (zs.map PyData.str) = 0 := by
  induction zs with
  | nil => exact ⟨rfl, rfl⟩
  | cons z r ih =>
    obtain ⟨h1, h2⟩ := ih fun y hy => h y (.tail _ hy)
    refine ⟨?_, ?_⟩
    · show (PyData.strOk z && PyData.canLayAll0 (r.map PyData.str)) = true
      rw [h z (.head _), h1]; rfl
    · show max 0 (PyData.depthAll (r.map PyData.str)) = 0
      rw [h2]; rfl
theorem dp_strsT {K : PySem.W.Frag} {H : Hp} {l : Addr} {zs : List Str} (h : SqT K H l (zs.map V.str)) : Dp K H (.ref l) (.tuple (zs.map PyData.str)) := by
  refine .tup h ?_
  clear h
  induction zs with
  | nil => exact .nil
  | cons z r ih => exact .cons (.str z) ih
structure Houses (zs : List Str) : Prop where
  nd : zs.Nodup
  nm : ∀ z ∈ zs, isName z = true
  lo : 1 ≤ zs.length
  hi : zs.length ≤ 8
theorem Houses.len {zs : List Str} (h : Houses zs) : ∀ z ∈ zs, z.length ≤ 100 := fun z hz => Nat.le_trans (name_len (h.nm z hz)) (by decide)
theorem passX {X : Cx} : Passes (L2.CX X.prog X.w) X E0 := fun _ _ _ _ _ _ _ h => by
  obtain ⟨_, _, _, _, _, _, _, _, _, _, _, _, e⟩ := h
  exact e.elim
/-! ### objects with fields: steps -/
section
variable {X : Cx} {K : PySem.W.Frag}
theorem pe_fldK {e : Expr} {f : Str} {pos : Pos} {ta : TE} (h : X.K = K) (he : PE X e ta) (hb : attributeBase e f X.env (eval e X.env) = eval e X.env) : PE X (.Attribute e f pos) (tFld K ta f) := by subst h; exact pe_fld he hb
theorem ps_fldK {o value : Expr} {f : Str} {pos pos2 : Pos} {ta tv : TE} (h : X.K = K) (ha : PE X o ta) (hv : PE X value tv) (hs : swapsWith value (some (.Attribute o f pos2)) pos.line X.env = pure false) : PS X (.Assign [.Attribute o f pos2] value pos) (sFld K ta tv f) := by subst h; exact ps_fld ha hv hs
end
section
variable {K : PySem.W.Frag} {H : Hp} {Q : VK} {σ : L2.St} {te ta tv : TE} {t : TA} {f m : Str} {C p dx : Addr} {fs : List (Str × V)} {v : V} {D : Ends} {sp : Sp} {dvs : List V} {E : XK}
def rFld (K : PySem.W.Frag) (f : Str) (Q : VK) : V → Hp → Prop := fun x H1 => ∃ a C dx fs v, x = .ref a ∧ H1 a = some (.ins C dx fs) ∧ Cls K C ∧ NoAttr K C f ∧ fs.lookup f = some v ∧ Q v H1
theorem g_fld (q : te σ H fun x H1 => rFld K f Q x H1) : tFld K te f σ H Q := q
theorem g_fld1 (h : H p = some (.ins C dx fs)) (c : Cls K C) (n : NoAttr K C f) (l : fs.lookup f = some v) (q : Q v H) : rFld K f Q (.ref p) H := ⟨p, C, dx, fs, v, rfl, h, c, n, l, q⟩
def rStF (K : PySem.W.Frag) (f : Str) (y : V) (D : Ends) (σ : L2.St) : V → Hp → Prop := fun x H2 => ∃ a C dx fs, x = .ref a ∧ H2 a = some (.ins C dx fs) ∧ Cls K C ∧ NoAttr K C f ∧ fs.length < 1000 ∧ D.nx σ (upd H2 a (.ins C dx (putF f y fs)))
theorem g_stF (q : tv σ H fun y H1 => ta σ H1 fun x H2 => rStF K f y D σ x H2) : sFld K ta tv f D σ H := q
theorem g_stF1 {y : V} (h : H p = some (.ins C dx fs)) (c : Cls K C) (n : NoAttr K C f) (l : fs.length < 1000) (q : D.nx σ (upd H p (.ins C dx (putF f y fs)))) : rStF K f y D σ (.ref p) H := ⟨p, C, dx, fs, rfl, h, c, n, l, q⟩
def rMeth (C : Addr) (m : Str) (sp : Sp) (dvs : List V) (E : XK) (t : TA) (σ : L2.St) (Q : VK) : V → Hp → Prop := fun x H1 => ∃ a dx fs, x = .ref a ∧ H1 a = some (.ins C dx fs) ∧ fs.lookup m = none ∧ t σ H1 fun vs H2 => sp (x :: (vs ++ dvs)) H2 Q E
theorem g_meth (q : ta σ H fun x H1 => rMeth C m sp dvs E t σ Q x H1) : tMeth C m sp dvs E ta t σ H Q := q
theorem g_meth1 (h : H p = some (.ins C dx fs)) (l : fs.lookup m = none) (q : t σ H fun vs H2 => sp (.ref p :: (vs ++ dvs)) H2 Q E) : rMeth C m sp dvs E t σ Q (.ref p) H := ⟨p, dx, fs, rfl, h, l, q⟩
theorem g_make (q : t σ H fun vs H1 => ∀ x dx, H1 x = none → H1 dx = none → dx ≠ x → sp (.ref x :: (vs ++ dvs)) (upd (upd H1 dx (.own x)) x (.ins C dx [])) (fun v H2 => v = .non ∧ Q (.ref x) H2) E) : tMake C sp dvs E t σ H Q := q
theorem putF_hit {y w : V} {r : List (Str × V)} : putF f y ((f, w) :: r) = (f, y) :: r := by
  show (if f = f then _ else _) = _
  rw [if_pos rfl]
theorem putF_miss {g : Str} {y w : V} {r : List (Str × V)} (h : g ≠ f) : putF f y ((g, w) :: r) = (g, w) :: putF f y r := by
  show (if g = f then _ else _) = _
  rw [if_neg h]
/-- what stands, but the object at m -/
def ExP (m : Addr) (H H' : Hp) : Prop := ∀ b o, b ≠ m → H b = some o → H' b = some o
theorem ExP.of {m : Addr} {H H' : Hp} (e : Ex H H') : ExP m H H' := fun b o _ h => e b o h
theorem ExP.trans {m : Addr} {H H' H2 : Hp} (e : ExP m H H') (e2 : ExP m H' H2) : ExP m H H2 := fun b o hb h => e2 b o hb (e b o hb h)
theorem ExP.upd {m : Addr} {H H' : Hp} {o : HO} (e : ExP m H H') : ExP m H (L2.upd H' m o) := fun b o hb h => by rw [upd_ne hb]; exact e b o hb h
theorem exP_sqT {m : Addr} {H H' : Hp} {C dx : Addr} {fs : List (Str × V)} {p : Addr} {vs : List V} (hm : H m = some (.ins C dx fs)) (e : ExP m H H') (h : SqT K H p vs) : SqT K H' p vs := by
  rcases h with (h | ⟨o, h⟩) | h
  · exact .inl (.inl (e p _ (fun z => by rw [z, hm] at h; cases h) h))
  · exact .inl (.inr ⟨o, e p _ (fun z => by rw [z, hm] at h; cases h) h⟩)
  · exact .inr h
theorem exP_sqL {m : Addr} {H H' : Hp} {C dx : Addr} {fs : List (Str × V)} {p : Addr} {vs : List V} (hm : H m = some (.ins C dx fs)) (e : ExP m H H') (h : SqL K H p vs) : SqL K H' p vs := by
  rcases h with (h | ⟨o, h⟩) | h
  · exact .inl (.inl (e p _ (fun z => by rw [z, hm] at h; cases h) h))
  · exact .inl (.inr ⟨o, e p _ (fun z => by rw [z, hm] at h; cases h) h⟩)
  · exact .inr h
theorem g_rev (q : te σ H fun x H1 => ∃ a xs, x = .ref a ∧ SqL K H1 a xs ∧ ∀ p, H1 p = none → Q (.ref p) (upd H1 p (.lst xs.reverse))) : tRevL K te σ H Q := q
end
/-! ### the gap: limits and meters -/
def LimG (K : PySem.W.Frag) (H : Hp) (p : Addr) (gs : List Str) (t : Int) : Prop := ∃ g n, SqT K H p [.str "gap1", .str "gap", .ref g, .ref n] ∧ SqT K H g (gs.map V.str) ∧ SqT K H n [.int t]
theorem LimG.mono {K : PySem.W.Frag} {H H' : Hp} {p : Addr} {gs : List Str} {t : Int} (h : LimG K H p gs t) (e : Ex H H') : LimG K H' p gs t := by
  obtain ⟨g, n, h1, h2, h3⟩ := h
  exact ⟨g, n, ex_sqT e h1, ex_sqT e h2, ex_sqT e h3⟩
theorem LimG.exP {K : PySem.W.Frag} {H H' : Hp} {p : Addr} {gs : List Str} {t : Int} {m C dx : Addr} {fs : List (Str × V)} (h : LimG K H p gs t) (hm : H m = some (.ins C dx fs)) (e : ExP m H H') : LimG K H' p gs t := by
  obtain ⟨g, n, h1, h2, h3⟩ := h
  exact ⟨g, n, exP_sqT hm e h1, exP_sqT hm e h2, exP_sqT hm e h3⟩
def oN : Option Int → V
  | some i => .int i
  | none => .non
def flG (lim : Addr) (t : Int) (last : Option Int) : List (Str × V) := [("limit", .ref lim), ("_ticks", .int t), ("_last", oN last)]
theorem flG_set (lim : Addr) (t : Int) (last : Option Int) (m : Int) : putF "_last" (.int m) (flG lim t last) = flG lim t (some m) := by
  unfold flG
  rw [putF_miss (by decide +kernel), putF_miss (by decide +kernel), putF_hit]
  rfl
theorem flG_new (lim : Addr) (t : Int) : putF "_last" .non (putF "_ticks" (.int t) (putF "limit" (.ref lim) [])) = flG lim t none := by
  have e1 : putF "limit" (.ref lim) [] = [(("limit" : Str), V.ref lim)] := rfl
  rw [e1, putF_miss (by decide +kernel), putF_miss (by decide +kernel)]
  have e2 : putF "_ticks" (.int t) [] = [(("_ticks" : Str), V.int t)] := rfl
  rw [e2, putF_miss (by decide +kernel)]
  rfl
/-- the least moment with room -/
def earlG (t : Int) (last : Option Int) (m : Int) : Int := match last with
  | none => m
  | some x => if x + t > m then x + t else m
section
variable {K : PySem.W.Frag} {H : Hp} {σ : L2.St} {T : Addr} {x y z u : V} {i j k l : Nat} {Qs : L2.St → Hp → Prop}
theorem g_gtup3 (h : SqT K H T [x, y, z]) (q : Qs (((σ.set i (some x)).set j (some y)).set k (some z)) H) : gTup K 3 (gCons (gName i) (gCons (gName j) (gCons (gName k) gNil))) (.ref T) σ H Qs :=
  ⟨T, [x, y, z], rfl, h, rfl, x, [y, z], rfl, y, [z], rfl, z, [], rfl, rfl, q⟩
theorem g_gtup4 (h : SqT K H T [x, y, z, u]) (q : Qs ((((σ.set i (some x)).set j (some y)).set k (some z)).set l (some u)) H) : gTup K 4 (gCons (gName i) (gCons (gName j) (gCons (gName k) (gCons (gName l) gNil)))) (.ref T) σ H Qs :=
  ⟨T, [x, y, z, u], rfl, h, rfl, x, [y, z, u], rfl, y, [z, u], rfl, z, [u], rfl, u, [], rfl, rfl, q⟩
end
theorem strs_shapedT {zs : List Str} (h : ∀ z ∈ zs, PyData.strOk z = true) : SeqAt.shaped (.tuple (zs.map PyData.str)) = true := by
  obtain ⟨h1, h2⟩ := strs_shaped h
  show (PyData.canLayAll0 (zs.map PyData.str) && decide (PyData.depthAll (zs.map PyData.str) + 1 ≤ 64)) = true
  rw [h1, h2]
  rfl
theorem w_ifH {p : Prop} [Decidable p] {te : TE} {n : Nat} {D : Ends} {σ : L2.St} {H : Hp} (W : V → Hp → Prop) (h1 : p → ∀ R : VK, (∀ x H', W x H' → Ex H H' → R x H') → te σ H R) (h0 : ¬ p → ∃ old, σ[n]? = some (some old) ∧ W old H)
    (hk : ∀ x H', W x H' → Ex H H' → D.nx (σ.set n (some x)) H') : if decide p = true then tAsg te (gName n) D σ H else tNext D σ H := by
  refine w_dec (fun h => h1 h _ hk) (fun h => ?_)
  obtain ⟨old, e, w⟩ := h0 h
  have e2 : σ.set n (some old) = σ := by
    apply List.ext_getElem?
    intro k
    by_cases hk : n = k
    · subst hk
      rw [List.getElem?_set_self (List.getElem?_eq_some_iff.mp e).1, e]
    · rw [List.getElem?_set_ne hk]
  have := hk old H w (Evl.Ex.refl _)
  rw [e2] at this
  exact this
abbrev R4 : Type := Int × Str × Int × Str
def R4.vs (r : R4) : List V := [.int r.1, .str r.2.1, .int r.2.2.1, .str r.2.2.2]
def RowsG (K : PySem.W.Frag) (H : Hp) (xs : List (Addr × R4)) : Prop := ∀ x ∈ xs, SqT K H x.1 x.2.vs
theorem RowsG.mono {K : PySem.W.Frag} {H H' : Hp} {xs : List (Addr × R4)} (h : RowsG K H xs) (e : Ex H H') : RowsG K H' xs := fun x hx => ex_sqT e (h x hx)
theorem RowsG.exP {K : PySem.W.Frag} {H H' : Hp} {xs : List (Addr × R4)} {m C dx : Addr} {fs : List (Str × V)} (h : RowsG K H xs) (hm : H m = some (.ins C dx fs)) (e : ExP m H H') : RowsG K H' xs := fun x hx => exP_sqT hm e (h x hx)
structure WSt (K : PySem.W.Frag) (C m dx p l : Addr) (ns : List Int) (gs : List Str) (t : Int) (pl pg : Addr) (last : Option Int) (xs : List (Addr × R4)) (H : Hp) : Prop where
  hm : H m = some (.ins C dx (flG p t last))
  hL : LimG K H p gs t
  hS : SqL K H l (ns.map V.int)
  hA : H pl = some (.lst (xs.map fun x => V.ref x.1))
  hG : H pg = some (.lst [])
  hR : RowsG K H xs
section
variable {K : PySem.W.Frag} {C m dx p l : Addr} {ns : List Int} {gs : List Str} {t : Int} {pl pg : Addr} {last last2 : Option Int} {xs : List (Addr × R4)} {H H' : Hp}
theorem WSt.mono (w : WSt K C m dx p l ns gs t pl pg last xs H) (e : Ex H H') : WSt K C m dx p l ns gs t pl pg last xs H' :=
  ⟨ex_at e w.hm, w.hL.mono e, ex_sqL e w.hS, ex_at e w.hA, ex_at e w.hG, w.hR.mono e⟩
theorem WSt.exP (w : WSt K C m dx p l ns gs t pl pg last xs H) (e : ExP m H H') (h : H' m = some (.ins C dx (flG p t last2))) : WSt K C m dx p l ns gs t pl pg last2 xs H' :=
  ⟨h, w.hL.exP w.hm e, exP_sqL w.hm e w.hS, e pl _ (fun z => by have := w.hA; rw [z, w.hm] at this; cases this) w.hA, e pg _ (fun z => by have := w.hG; rw [z, w.hm] at this; cases this) w.hG, w.hR.exP w.hm e⟩
theorem sqT_lst {q : Addr} {o : HO} {vs ys : List V} (hA : H pl = some (.lst ys)) (h : SqT K H q vs) : SqT K (upd H pl o) q vs := sqT_upd hA h
theorem ExP.mut {q : Addr} {o : HO} (e : ExP m H H') (h : H q = none) : ExP m H (L2.upd H' q o) := fun b u hb hu => by
  rw [upd_ne (fun z => by rw [z, h] at hu; cases hu)]
  exact e b u hb hu
end
theorem ex_made {H : Hp} {m dx : Addr} {C : Addr} (hm : H m = none) (hd : H dx = none) (hne : dx ≠ m) : Ex H (upd (upd H dx (.own m)) m (.ins C dx [])) := (Evl.Ex.new hd).trans (Evl.Ex.new (by rw [upd_ne (Ne.symm hne)]; exact hm))
section
variable {X : Cx} {K : PySem.W.Frag}
def rFldA (K : PySem.W.Frag) (f : Str) (v : V) (σ : L2.St) (Q : L2.St → Hp → Prop) : V → Hp → Prop := fun x H1 => ∃ a C dx fs, x = .ref a ∧ H1 a = some (.ins C dx fs) ∧ Cls K C ∧ NoAttr K C f ∧ fs.length < 1000 ∧ Q σ (upd H1 a (.ins C dx (putF f v fs)))
theorem g_fldA1 {f : Str} {v : V} {σ : L2.St} {H : Hp} {Q : L2.St → Hp → Prop} {p C dx : Addr} {fs : List (Str × V)} (h : H p = some (.ins C dx fs)) (c : Cls K C) (n : NoAttr K C f) (l : fs.length < 1000) (q : Q σ (upd H p (.ins C dx (putF f v fs)))) : rFldA K f v σ Q (.ref p) H := ⟨p, C, dx, fs, rfl, h, c, n, l, q⟩
def gFldA (K : PySem.W.Frag) (to : TE) (f : Str) : TG := fun v σ H Q => to σ H fun x H1 => ∃ a C dx fs, x = .ref a ∧ H1 a = some (.ins C dx fs) ∧ Cls K C ∧ NoAttr K C f ∧ fs.length < 1000 ∧ Q σ (upd H1 a (.ins C dx (putF f v fs)))
theorem pg_fldK {o : Expr} {f : Str} {pos : Pos} {to : TE} (h : X.K = K) (ho : PE X o to) : PG X (.Attribute o f pos) (gFldA K to f) := by
  subst h
  refine ⟨fun pk s σ H v u Q I0 rr hh => ?_⟩
  rw [assign_Attribute]
  refine wpAny_bind (wpAny_holding (thn (ho.run pk s σ H _ I0 hh) fun ov s1 ⟨x, H1, I1, r1, a, C, dx, fs, ex, ea, c, n, l, q⟩ => ?_))
  subst ex
  cases r1
  refine wpAny_bind (wpAny_standAt (wpAny_bind (wpAny_holding (setattr_ok I1 ea c n l rr fun s2 I2 => ?_))))
  exact wpAny_release ⟨σ, _, I2, q⟩
theorem g_gtupA {H : Hp} {σ : L2.St} {T : Addr} {x y : V} {g1 g2 : TG} {Qs : L2.St → Hp → Prop} (h : SqT K H T [x, y]) (q : g1 x σ H fun σ2 H2 => g2 y σ2 H2 Qs) : gTup K 2 (gCons g1 (gCons g2 gNil)) (.ref T) σ H Qs := by
  refine ⟨T, [x, y], rfl, h, rfl, x, [y], rfl, ?_⟩
  have e : (fun σ2 H2 => g2 y σ2 H2 Qs) = fun σ' H' => gCons g2 gNil [y] σ' H' Qs := by
    funext σ2 H2
    apply propext
    constructor
    · intro h
      refine ⟨y, [], rfl, ?_⟩
      have e2 : (fun σ' H' => gNil [] σ' H' Qs) = Qs := by
        funext a b
        exact propext ⟨fun h => h.2, fun h => ⟨rfl, h⟩⟩
      rw [e2]
      exact h
    · rintro ⟨v, r, e1, h⟩
      cases e1
      have e2 : (fun σ' H' => gNil [] σ' H' Qs) = Qs := by
        funext a b
        exact propext ⟨fun h => h.2, fun h => ⟨rfl, h⟩⟩
      rw [e2] at h
      exact h
  rw [← e]
  exact q
theorem g_fldA {to : TE} {f : Str} {v : V} {σ : L2.St} {H : Hp} {Q : L2.St → Hp → Prop} (q : to σ H fun x H1 => rFldA K f v σ Q x H1) : gFldA K to f v σ H Q := q
end
/-! ### limits of two numbers (window, span, bucket) and their meters -/
def LimF (K : PySem.W.Frag) (H : Hp) (p : Addr) (w : Str) (gs : List Str) (s t : Int) : Prop := ∃ g n, SqT K H p [.str "flow1", .str w, .ref g, .ref n] ∧ SqT K H g (gs.map V.str) ∧ SqT K H n [.int s, .int t]
section
variable {K : PySem.W.Frag} {H H' : Hp} {p : Addr} {wd : Str} {gs : List Str} {s t : Int} {m C dx : Addr} {fs fs2 : List (Str × V)}
theorem LimF.mono (h : LimF K H p wd gs s t) (e : Ex H H') : LimF K H' p wd gs s t := by
  obtain ⟨g, n, h1, h2, h3⟩ := h
  exact ⟨g, n, ex_sqT e h1, ex_sqT e h2, ex_sqT e h3⟩
theorem LimF.exP (h : LimF K H p wd gs s t) (hm : H m = some (.ins C dx fs)) (e : ExP m H H') : LimF K H' p wd gs s t := by
  obtain ⟨g, n, h1, h2, h3⟩ := h
  exact ⟨g, n, exP_sqT hm e h1, exP_sqT hm e h2, exP_sqT hm e h3⟩
structure WStF (K : PySem.W.Frag) (C m dx p l : Addr) (fs : List (Str × V)) (wd : Str) (ns : List Int) (gs : List Str) (s t : Int) (pl pg : Addr) (xs : List (Addr × R4)) (H : Hp) : Prop where
  hm : H m = some (.ins C dx fs)
  hL : LimF K H p wd gs s t
  hS : SqL K H l (ns.map V.int)
  hA : H pl = some (.lst (xs.map fun x => V.ref x.1))
  hG : H pg = some (.lst [])
  hR : RowsG K H xs
variable {l pl pg : Addr} {ns : List Int} {xs : List (Addr × R4)}
theorem WStF.mono (w : WStF K C m dx p l fs wd ns gs s t pl pg xs H) (e : Ex H H') : WStF K C m dx p l fs wd ns gs s t pl pg xs H' :=
  ⟨ex_at e w.hm, w.hL.mono e, ex_sqL e w.hS, ex_at e w.hA, ex_at e w.hG, w.hR.mono e⟩
theorem WStF.exP (w : WStF K C m dx p l fs wd ns gs s t pl pg xs H) (e : ExP m H H') (h : H' m = some (.ins C dx fs2)) : WStF K C m dx p l fs2 wd ns gs s t pl pg xs H' :=
  ⟨h, w.hL.exP w.hm e, exP_sqL w.hm e w.hS, e pl _ (fun z => by have := w.hA; rw [z, w.hm] at this; cases this) w.hA, e pg _ (fun z => by have := w.hG; rw [z, w.hm] at this; cases this) w.hG, w.hR.exP w.hm e⟩
end
/-- moment and cost of a row -/
abbrev MC : Type := Int × Int
/-! spans -/
def atS (t k : Int) (rs : List MC) : Int := ((rs.filter fun r => decide (r.1 / t = k)).map (·.2)).sum
theorem atS_snoc (t k : Int) (rs : List MC) (m c : Int) : atS t k (rs ++ [(m, c)]) = atS t k rs + if m / t = k then c else 0 := by
  unfold atS
  rw [List.filter_append, List.map_append, List.sum_append]
  by_cases h : m / t = k
  · rw [List.filter_cons_of_pos (by rw [decide_eq_true h]), if_pos h]
    simp
  · rw [List.filter_cons_of_neg (by rw [decide_eq_false h]; decide), if_neg h]
    simp
theorem atS_new {t k : Int} {rs : List MC} (h : ∀ r ∈ rs, r.1 / t < k) : atS t k rs = 0 := by
  unfold atS
  have e : (rs.filter fun r => decide (r.1 / t = k)) = [] := by
    rw [List.filter_eq_nil_iff]
    intro r hr
    have := h r hr
    rw [decide_eq_true_eq]
    omega
  rw [e]
  rfl
/-- what the meter keeps -/
structure KeepS (t mo sp us : Int) (rs : List MC) : Prop where
  us : us = atS t sp rs
  all : ∀ r ∈ rs, r.1 / t ≤ sp
  le : sp ≤ mo / t
def usedS (t sp us m : Int) : Int := if m / t = sp then us else 0
theorem KeepS.used {t mo sp us m : Int} {rs : List MC} (k : KeepS t mo sp us rs) (ht : 1 ≤ t) (h : mo ≤ m) : usedS t sp us m = atS t (m / t) rs := by
  have h1 : mo / t ≤ m / t := Int.ediv_le_ediv (by omega) h
  have h2 := k.le
  unfold usedS
  by_cases e : m / t = sp
  · rw [if_pos e, e]; exact k.us
  · rw [if_neg e, atS_new]
    intro r hr
    have := k.all r hr
    omega
theorem KeepS.later {t mo m sp us : Int} {rs : List MC} (k : KeepS t mo sp us rs) (ht : 1 ≤ t) (h : mo ≤ m) : KeepS t m sp us rs :=
  ⟨k.us, k.all, Int.le_trans k.le (Int.ediv_le_ediv (by omega) h)⟩
theorem KeepS.snoc {t mo m c sp us : Int} {rs : List MC} (k : KeepS t mo sp us rs) (ht : 1 ≤ t) (h : mo ≤ m) : KeepS t m (m / t) (usedS t sp us m + c) (rs ++ [(m, c)]) := by
  have h1 : mo / t ≤ m / t := Int.ediv_le_ediv (by omega) h
  have h2 := k.le
  refine ⟨by rw [k.used ht h, atS_snoc, if_pos rfl], fun r hr => ?_, Int.le_refl _⟩
  rcases List.mem_append.mp hr with hr | hr
  · have := k.all r hr; omega
  · rw [List.mem_singleton] at hr
    rw [hr]
    exact Int.le_refl _
def earlS (s t u c m : Int) : Option Int := if u + c ≤ s then some m else if c > s then none else some ((m / t + 1) * t)
theorem next_span {t m : Int} (ht : 1 ≤ t) : (m / t + 1) * t / t = m / t + 1 ∧ m < (m / t + 1) * t := by
  have h1 := Int.emod_add_mul_ediv m t
  have h3 := Int.emod_lt_of_pos m (show 0 < t by omega)
  refine ⟨Int.mul_ediv_cancel _ (by omega), ?_⟩
  rw [Int.add_mul, Int.one_mul, Int.mul_comm (m / t) t]
  omega
/-! the meter's fields -/
def flS (lim : Addr) (s t sp us : Int) : List (Str × V) := [("limit", .ref lim), ("_most", .int s), ("_length", .int t), ("_span", .int sp), ("_used", .int us)]
theorem flS_used (lim : Addr) (s t sp us x : Int) : putF "_used" (.int x) (flS lim s t sp us) = flS lim s t sp x := by
  unfold flS
  rw [putF_miss (by decide +kernel), putF_miss (by decide +kernel), putF_miss (by decide +kernel), putF_miss (by decide +kernel), putF_hit]
theorem flS_span (lim : Addr) (s t sp us x : Int) : putF "_span" (.int x) (flS lim s t sp us) = flS lim s t x us := by
  unfold flS
  rw [putF_miss (by decide +kernel), putF_miss (by decide +kernel), putF_miss (by decide +kernel), putF_hit]
theorem flS_new (lim : Addr) (s t : Int) : putF "_used" (.int 0) (putF "_span" (.int 0) (putF "_length" (.int t) (putF "_most" (.int s) (putF "limit" (.ref lim) [])))) = flS lim s t 0 0 := by
  have a1 : putF "limit" (.ref lim) [] = [(("limit" : Str), V.ref lim)] := rfl
  have a2 : putF "_most" (.int s) [(("limit" : Str), V.ref lim)] = [(("limit" : Str), V.ref lim), ("_most", .int s)] := by
    rw [putF_miss (by decide +kernel)]; rfl
  have a3 : putF "_length" (.int t) [(("limit" : Str), V.ref lim), ("_most", .int s)] = [(("limit" : Str), V.ref lim), ("_most", .int s), ("_length", .int t)] := by
    rw [putF_miss (by decide +kernel), putF_miss (by decide +kernel)]; rfl
  have a4 : putF "_span" (.int 0) [(("limit" : Str), V.ref lim), ("_most", .int s), ("_length", .int t)] = [(("limit" : Str), V.ref lim), ("_most", .int s), ("_length", .int t), ("_span", .int 0)] := by
    rw [putF_miss (by decide +kernel), putF_miss (by decide +kernel), putF_miss (by decide +kernel)]; rfl
  rw [a1, a2, a3, a4, putF_miss (by decide +kernel), putF_miss (by decide +kernel), putF_miss (by decide +kernel), putF_miss (by decide +kernel)]
  rfl
/-! ### windows: plain law -/
/-- what still counts at m -/
def sinceW (t m : Int) (rs : List MC) : Int := ((rs.filter fun r => decide (r.1 > m - t)).map (·.2)).sum
theorem sinceW_snoc (t a : Int) (rs : List MC) (m c : Int) : sinceW t a (rs ++ [(m, c)]) = sinceW t a rs + if m > a - t then c else 0 := by
  unfold sinceW
  rw [List.filter_append, List.map_append, List.sum_append]
  by_cases h : m > a - t
  · rw [List.filter_cons_of_pos (by rw [decide_eq_true h]), if_pos h]
    simp
  · rw [List.filter_cons_of_neg (by rw [decide_eq_false h]; decide), if_neg h]
    simp
def live (t m : Int) (ps : List MC) : List MC := ps.filter fun r => decide (r.1 > m - t)
theorem live_since {t m m2 : Int} (h : m ≤ m2) (ps : List MC) : sinceW t m2 (live t m ps) = sinceW t m2 ps := by
  unfold sinceW live
  rw [List.filter_filter]
  congr 2
  apply List.filter_congr
  intro r _
  rw [Bool.eq_iff_iff, Bool.and_eq_true, decide_eq_true_eq, decide_eq_true_eq]
  omega
/-- what the meter keeps behind let -/
def letW (t m c : Int) (ps : List MC) : List MC := match (live t m ps).getLast? with
  | some r => if r.1 = m then (live t m ps).dropLast ++ [(m, c + r.2)] else live t m ps ++ [(m, c)]
  | none => live t m ps ++ [(m, c)]
structure KeepW (t mo : Int) (ps rs : List MC) : Prop where
  eq : ∀ m, mo ≤ m → sinceW t m ps = sinceW t m rs
  le : ∀ r ∈ ps, r.1 ≤ mo
  lers : ∀ r ∈ rs, r.1 ≤ mo
  inc : ps.Pairwise fun a b => a.1 < b.1
  sub : ∀ r ∈ ps, ∃ q ∈ rs, q.1 = r.1
theorem KeepW.later {t mo m : Int} {ps rs : List MC} (k : KeepW t mo ps rs) (h : mo ≤ m) : KeepW t m ps rs :=
  ⟨fun x hx => k.eq x (Int.le_trans h hx), fun r hr => Int.le_trans (k.le r hr) h, fun r hr => Int.le_trans (k.lers r hr) h, k.inc, k.sub⟩
theorem letW_since {t m c : Int} (m2 : Int) (ps : List MC) : sinceW t m2 (letW t m c ps) = sinceW t m2 (live t m ps) + if m > m2 - t then c else 0 := by
  unfold letW
  cases hl : (live t m ps).getLast? with
  | none => exact sinceW_snoc t m2 _ m c
  | some r =>
    show sinceW t m2 (if r.1 = m then (live t m ps).dropLast ++ [(m, c + r.2)] else live t m ps ++ [(m, c)]) = _
    by_cases e : r.1 = m
    · rw [if_pos e]
      have hne : live t m ps ≠ [] := fun h => by rw [h] at hl; cases hl
      have hr : (live t m ps).getLast hne = r := by
        rw [List.getLast?_eq_some_getLast hne] at hl
        exact Option.some.inj hl
      have hd : live t m ps = (live t m ps).dropLast ++ [r] := by
        rw [← hr]; exact (List.dropLast_concat_getLast hne).symm
      generalize (live t m ps).dropLast = ini at hd ⊢
      rw [hd, show ([r] : List MC) = [(r.1, r.2)] from rfl, sinceW_snoc, sinceW_snoc, e]
      split <;> omega
    · rw [if_neg e]
      exact sinceW_snoc t m2 _ m c
theorem letW_mem {t m c : Int} {ps : List MC} {r : MC} (h : r ∈ letW t m c ps) : r.1 = m ∨ r ∈ ps := by
  have key : ∀ x ∈ live t m ps, x ∈ ps := fun x hx => (List.mem_filter.mp hx).1
  unfold letW at h
  split at h
  · split at h
    · rcases List.mem_append.mp h with h | h
      · exact .inr (key r (List.dropLast_subset _ h))
      · rw [List.mem_singleton] at h; rw [h]; exact .inl rfl
    · rcases List.mem_append.mp h with h | h
      · exact .inr (key r h)
      · rw [List.mem_singleton] at h; rw [h]; exact .inl rfl
  · rcases List.mem_append.mp h with h | h
    · exact .inr (key r h)
    · rw [List.mem_singleton] at h; rw [h]; exact .inl rfl
theorem live_inc {t m : Int} {ps : List MC} (h : ps.Pairwise fun a b => a.1 < b.1) : (live t m ps).Pairwise fun a b => a.1 < b.1 := h.sublist List.filter_sublist
theorem inc_snoc {l : List MC} {x : MC} (h : l.Pairwise fun a b => a.1 < b.1) (hx : ∀ r ∈ l, r.1 < x.1) : (l ++ [x]).Pairwise fun a b => a.1 < b.1 := by
  rw [List.pairwise_append]
  refine ⟨h, List.pairwise_singleton _ _, fun a ha b hb => ?_⟩
  rw [List.mem_singleton] at hb
  rw [hb]
  exact hx a ha
theorem letW_inc {t m c : Int} {ps : List MC} (h : ps.Pairwise fun a b => a.1 < b.1) (hm : ∀ r ∈ ps, r.1 ≤ m) : (letW t m c ps).Pairwise fun a b => a.1 < b.1 := by
  have hi := live_inc (t := t) (m := m) h
  have hl : ∀ r ∈ live t m ps, r.1 ≤ m := fun r hr => hm r (List.mem_filter.mp hr).1
  unfold letW
  generalize live t m ps = l at hi hl
  cases hg : l.getLast? with
  | none =>
    have : l = [] := List.getLast?_eq_none_iff.mp hg
    rw [this]
    exact List.pairwise_singleton _ _
  | some r =>
    have hne : l ≠ [] := fun h => by rw [h] at hg; cases hg
    have hr : l.getLast hne = r := by
      rw [List.getLast?_eq_some_getLast hne] at hg
      exact Option.some.inj hg
    have hd : l = l.dropLast ++ [r] := by rw [← hr]; exact (List.dropLast_concat_getLast hne).symm
    generalize l.dropLast = ini at hd
    rw [hd] at hi hl
    rw [List.pairwise_append] at hi
    show List.Pairwise _ (if r.1 = m then ini ++ [(m, c + r.2)] else l ++ [(m, c)])
    by_cases e : r.1 = m
    · rw [if_pos e]
      refine inc_snoc hi.1 fun a ha => ?_
      have := hi.2.2 a ha r (.head _)
      show a.1 < m
      omega
    · rw [if_neg e, hd]
      have hrl := hl r (List.mem_append_right _ (.head _))
      refine inc_snoc (List.pairwise_append.mpr hi) fun a ha => ?_
      show a.1 < m
      rcases List.mem_append.mp ha with ha | ha
      · have := hi.2.2 a ha r (.head _); omega
      · rw [List.mem_singleton] at ha; rw [ha]; omega
theorem KeepW.snoc {t mo m c : Int} {ps rs : List MC} (k : KeepW t mo ps rs) (h : mo ≤ m) : KeepW t m (letW t m c ps) (rs ++ [(m, c)]) := by
  refine ⟨fun x hx => ?_, fun r hr => ?_, fun r hr => ?_, letW_inc k.inc fun r hr => Int.le_trans (k.le r hr) h, fun r hr => ?_⟩
  · rw [letW_since, live_since hx, sinceW_snoc, k.eq x (by omega)]
  · rcases letW_mem hr with e | hr
    · omega
    · exact Int.le_trans (k.le r hr) h
  · rcases List.mem_append.mp hr with hr | hr
    · exact Int.le_trans (k.lers r hr) h
    · rw [List.mem_singleton] at hr; rw [hr]; exact Int.le_refl _
  · rcases letW_mem hr with e | hr
    · exact ⟨(m, c), List.mem_append_right _ (.head _), e.symm⟩
    · obtain ⟨q, hq, e⟩ := k.sub r hr
      exact ⟨q, List.mem_append_left _ hq, e⟩
def sumC (l : List MC) : Int := (l.map (·.2)).sum
/-- the moment of the last row that must be gone before there is room -/
def lastGone (s c : Int) : List MC → Int → Int
  | [], x => x
  | r :: rest, x => if sumC (r :: rest) + c ≤ s then x else lastGone s c rest r.1
def earlW (s t c m : Int) (rows : List MC) : Option Int := if sumC rows + c ≤ s then some m else if c > s then none else some (lastGone s c rows 0 + t)
theorem gone_spec {s c : Int} (hc : c ≤ s) : ∀ (rows : List MC) (x : Int), ¬ sumC rows + c ≤ s → ∃ pre r post, rows = pre ++ r :: post ∧ lastGone s c rows x = r.1 ∧ sumC post + c ≤ s ∧ ¬ sumC (r :: post) + c ≤ s
  | [], x, h => absurd (by show 0 + c ≤ s; omega) h
  | r :: rest, x, h => by
    have e : lastGone s c (r :: rest) x = lastGone s c rest r.1 := by
      show (if sumC (r :: rest) + c ≤ s then x else lastGone s c rest r.1) = _
      rw [if_neg h]
    by_cases hr : sumC rest + c ≤ s
    · refine ⟨[], r, rest, rfl, ?_, hr, h⟩
      rw [e]
      cases rest with
      | nil => rfl
      | cons q rr =>
        show (if sumC (q :: rr) + c ≤ s then r.1 else _) = _
        rw [if_pos hr]
    · obtain ⟨pre, q, post, e1, e2, e3, e4⟩ := gone_spec hc rest r.1 hr
      exact ⟨r :: pre, q, post, by rw [e1]; rfl, by rw [e, e2], e3, e4⟩
theorem since_app (t z : Int) (a b : List MC) : sinceW t z (a ++ b) = sinceW t z a + sinceW t z b := by
  unfold sinceW
  rw [List.filter_append, List.map_append, List.sum_append]
theorem since_all {t z : Int} {l : List MC} (h : ∀ r ∈ l, r.1 > z - t) : sinceW t z l = sumC l := by
  unfold sinceW sumC
  rw [List.filter_eq_self.mpr fun r hr => decide_eq_true (h r hr)]
theorem since_none {t z : Int} {l : List MC} (h : ∀ r ∈ l, ¬ r.1 > z - t) : sinceW t z l = 0 := by
  unfold sinceW
  rw [List.filter_eq_nil_iff.mpr fun r hr => by rw [decide_eq_true_eq]; exact h r hr]
  rfl
/-! steps -/
section
variable {X : Cx} {K : PySem.W.Frag}
theorem pe_bm0K {o : Expr} {to : TE} {name : Str} {apos cpos : Pos} {T id : String} {r : V → List V → Hp → VK → Prop} (h : X.K = K) (pa : PlainAttrs T) (slot : Slot T name id) (hty : typeOf (.builtin id) = pure (.type "method_descriptor")) (hm : MtR X id r) (ho : PE X o to)
    (hb : attributeBase o name X.env (eval o X.env) = eval o X.env := by rfl) (hl : (apos.endLine == cpos.line) = true := by rfl) : PE X (.Call (.Attribute o name apos) [] [] cpos) (tBM0 K T r to) := by subst h; exact pe_bm0 pa slot hty hm ho hb hl
def tTruK (K : PySem.W.Frag) (ta : TE) : TT := fun σ H Q => ta σ H fun x H2 => ∃ k, TruV K x H2 k ∧ Q k H2
theorem pt_truthK {e : Expr} {ta : TE} (h : X.K = K) (ha : PE X e ta) (he : ∀ whole, isTrue e X.env whole = (do let v ← whole; standAt e.pos; holding [v] (truthy v))) : PT X e (tTruK K ta) := by subst h; exact pt_truth ha he
theorem g_tru {ta : TE} {σ : L2.St} {H : Hp} {Q : Bool → Hp → Prop} (q : ta σ H fun x H2 => ∃ k, TruV K x H2 k ∧ Q k H2) : tTruK K ta σ H Q := q
theorem g_popL {H : Hp} {Q : VK} {l : Addr} {xs : List V} {y : V} (h : H l = some (.lst (xs ++ [y]))) (q : Q y (upd H l (.lst xs))) : rPop (.ref l) [] H Q :=
  ⟨l, xs ++ [y], y, rfl, rfl, h, by rw [List.length_append]; show (xs ++ [y])[xs.length + 1 - 1]? = _; rw [Nat.add_sub_cancel, List.getElem?_append_right (Nat.le_refl _), Nat.sub_self]; rfl, by rw [List.dropLast_concat]; exact q⟩
end
def flW (lim : Addr) (s t : Int) (pS : Addr) : List (Str × V) := [("limit", .ref lim), ("_most", .int s), ("_length", .int t), ("_sums", .ref pS)]
theorem flW_set (lim : Addr) (s t : Int) (pS q : Addr) : putF "_sums" (.ref q) (flW lim s t pS) = flW lim s t q := by
  unfold flW
  rw [putF_miss (by decide +kernel), putF_miss (by decide +kernel), putF_miss (by decide +kernel), putF_hit]
theorem flW_new (lim : Addr) (s t : Int) (pS : Addr) : putF "_sums" (.ref pS) (putF "_length" (.int t) (putF "_most" (.int s) (putF "limit" (.ref lim) []))) = flW lim s t pS := by
  have a1 : putF "limit" (.ref lim) [] = [(("limit" : Str), V.ref lim)] := rfl
  have a2 : putF "_most" (.int s) [(("limit" : Str), V.ref lim)] = [(("limit" : Str), V.ref lim), ("_most", .int s)] := by
    rw [putF_miss (by decide +kernel)]; rfl
  have a3 : putF "_length" (.int t) [(("limit" : Str), V.ref lim), ("_most", .int s)] = [(("limit" : Str), V.ref lim), ("_most", .int s), ("_length", .int t)] := by
    rw [putF_miss (by decide +kernel), putF_miss (by decide +kernel)]; rfl
  rw [a1, a2, a3, putF_miss (by decide +kernel), putF_miss (by decide +kernel), putF_miss (by decide +kernel)]
  rfl
/-- the list of sums -/
def SumsAt (K : PySem.W.Frag) (H : Hp) (p : Addr) (qs : List (Addr × MC)) : Prop := H p = some (.lst (qs.map fun x => V.ref x.1)) ∧ ∀ x ∈ qs, SqT K H x.1 [.int x.2.1, .int x.2.2]
theorem SumsAt.mono {K : PySem.W.Frag} {H H' : Hp} {p : Addr} {qs : List (Addr × MC)} (h : SumsAt K H p qs) (e : Ex H H') : SumsAt K H' p qs := ⟨ex_at e h.1, fun x hx => ex_sqT e (h.2 x hx)⟩
theorem SumsAt.exP {K : PySem.W.Frag} {H H' : Hp} {p : Addr} {qs : List (Addr × MC)} {m C dx : Addr} {fs : List (Str × V)} (h : SumsAt K H p qs) (hm : H m = some (.ins C dx fs)) (e : ExP m H H') : SumsAt K H' p qs := ⟨e p _ (fun z => by have := h.1; rw [z, hm] at this; cases this) h.1, fun x hx => exP_sqT hm e (h.2 x hx)⟩
theorem SumsAt.mut {K : PySem.W.Frag} {H : Hp} {p q : Addr} {o : HO} {ys : List V} {qs : List (Addr × MC)} (h : SumsAt K H p qs) (hq : H q = some (.lst ys)) (hne : p ≠ q) : SumsAt K (upd H q o) p qs := ⟨by rw [upd_ne hne]; exact h.1, fun x hx => sqT_lst hq (h.2 x hx)⟩
/-! limits of two numbers, of any name -/
def LimN (K : PySem.W.Frag) (H : Hp) (p : Addr) (nm w : Str) (gs : List Str) (s t : Int) : Prop := ∃ g n, SqT K H p [.str nm, .str w, .ref g, .ref n] ∧ SqT K H g (gs.map V.str) ∧ SqT K H n [.int s, .int t]
theorem LimN.mono {K : PySem.W.Frag} {H H' : Hp} {p : Addr} {nm wd : Str} {gs : List Str} {s t : Int} (h : LimN K H p nm wd gs s t) (e : Ex H H') : LimN K H' p nm wd gs s t := by
  obtain ⟨g, n, h1, h2, h3⟩ := h
  exact ⟨g, n, ex_sqT e h1, ex_sqT e h2, ex_sqT e h3⟩
theorem LimN.exP {K : PySem.W.Frag} {H H' : Hp} {p : Addr} {nm wd : Str} {gs : List Str} {s t : Int} {m C dx : Addr} {fs : List (Str × V)} (h : LimN K H p nm wd gs s t) (hm : H m = some (.ins C dx fs)) (e : ExP m H H') : LimN K H' p nm wd gs s t := by
  obtain ⟨g, n, h1, h2, h3⟩ := h
  exact ⟨g, n, exP_sqT hm e h1, exP_sqT hm e h2, exP_sqT hm e h3⟩
theorem LimF.nm {K : PySem.W.Frag} {H : Hp} {p : Addr} {wd : Str} {gs : List Str} {s t : Int} (h : LimF K H p wd gs s t) : LimN K H p "flow1" wd gs s t := h
/-! the walk's state -/
structure WStW (K : PySem.W.Frag) (C m dx p l pS : Addr) (wd : Str) (ns : List Int) (gs : List Str) (s t : Int) (pl pg : Addr) (qs : List (Addr × MC)) (xs : List (Addr × R4)) (H : Hp) : Prop where
  w : WStF K C m dx p l (flW p s t pS) wd ns gs s t pl pg xs H
  u : SumsAt K H pS qs
  ne : pS ≠ pl
section
variable {K : PySem.W.Frag} {H H' : Hp} {p : Addr} {wd : Str} {gs : List Str} {s t : Int} {C m dx pS pS2 l pl pg : Addr} {ns : List Int} {qs qs2 : List (Addr × MC)} {xs : List (Addr × R4)}
theorem WStW.mono (w : WStW K C m dx p l pS wd ns gs s t pl pg qs xs H) (e : Ex H H') : WStW K C m dx p l pS wd ns gs s t pl pg qs xs H' := ⟨w.w.mono e, w.u.mono e, w.ne⟩
theorem WStW.exP (w : WStW K C m dx p l pS wd ns gs s t pl pg qs xs H) (e : ExP m H H') (h : H' m = some (.ins C dx (flW p s t pS2))) (hu : SumsAt K H' pS2 qs2) (hn : pS2 = pS ∨ H pS2 = none) : WStW K C m dx p l pS2 wd ns gs s t pl pg qs2 xs H' :=
  ⟨w.w.exP e h, hu, by
    rcases hn with e2 | hn
    · rw [e2]; exact w.ne
    · intro z
      have := w.w.hA
      rw [← z, hn] at this
      cases this⟩
end
theorem letW_end {K : PySem.W.Frag} {H6 : Hp} {C m dx p pS pc : Addr} {s t : Int} {rs2 : List (Addr × MC)} {D : Ends} {σ : L2.St} (hcl : Cls K C) (n4 : NoAttr K C "_sums") (hm : H6 m = some (.ins C dx (flW p s t pS))) (hA : H6 pc = some (.lst (rs2.map fun x => V.ref x.1))) (hI : ∀ x ∈ rs2, SqT K H6 x.1 [.int x.2.1, .int x.2.2])
    (q : ∀ H', ExP m H6 H' → H' m = some (.ins C dx (flW p s t pc)) → SumsAt K H' pc rs2 → D.nx σ H') : rStF K "_sums" (.ref pc) D σ (.ref m) H6 := by
  refine g_stF1 hm hcl n4 (by show 4 < 1000; decide) ?_
  rw [flW_set]
  have e : ExP m H6 (upd H6 m (.ins C dx (flW p s t pc))) := ExP.upd (ExP.of (Evl.Ex.refl _))
  exact q _ e upd_same ⟨e pc _ (fun z => by rw [z, hm] at hA; cases hA) hA, fun x hx => exP_sqT hm e (hI x hx)⟩
/-- the state of the many requests -/
structure MSt (K : PySem.W.Frag) (H : Hp) (C m dx p : Addr) (s t : Int) (pS pl : Addr) (qs xs : List (Addr × MC)) (i : Nat) (mo : Int) : Prop where
  hm : H m = some (.ins C dx (flW p s t pS))
  hL : LimN K H p "many" "window" [] s t
  hU : SumsAt K H pS qs
  hX : SumsAt K H pl xs
  ne : pS ≠ pl
  hq : qs.length ≤ i
  hx : xs.length ≤ i
  hk : KeepW t mo (qs.map (·.2)) (xs.map (·.2))
theorem MSt.mono {K : PySem.W.Frag} {H H' : Hp} {C m dx p : Addr} {s t : Int} {pS pl : Addr} {qs xs : List (Addr × MC)} {i : Nat} {mo : Int} (M : MSt K H C m dx p s t pS pl qs xs i mo) (e : Ex H H') : MSt K H' C m dx p s t pS pl qs xs i mo :=
  ⟨ex_at e M.hm, M.hL.mono e, M.hU.mono e, M.hX.mono e, M.ne, M.hq, M.hx, M.hk⟩
/-! the loop of earliest -/
theorem gone_end {s c x : Int} {rows : List MC} (h : sumC rows + c ≤ s) : lastGone s c rows x = x := by
  cases rows with
  | nil => rfl
  | cons r rr =>
    show (if sumC (r :: rr) + c ≤ s then x else _) = x
    rw [if_pos h]
theorem gone_step {s c x : Int} {rows : List MC} {n : Nat} {r : MC} (h : rows[n]? = some r) (hn : ¬ sumC (rows.drop n) + c ≤ s) : lastGone s c (rows.drop n) x = lastGone s c (rows.drop (n + 1)) r.1 ∧ sumC (rows.drop n) - r.2 = sumC (rows.drop (n + 1)) := by
  have hl := (List.getElem?_eq_some_iff.mp h).1
  have he := (List.getElem?_eq_some_iff.mp h).2
  have hd : rows.drop n = r :: rows.drop (n + 1) := by rw [List.drop_eq_getElem_cons hl, he]
  rw [hd] at hn ⊢
  constructor
  · show (if sumC (r :: rows.drop (n + 1)) + c ≤ s then x else _) = _
    rw [if_neg hn]
  · unfold sumC
    rw [List.map_cons, List.sum_cons]
    omega
theorem letW_cs {t m c : Int} {ps : List MC} (h : ∀ r ∈ ps, 0 ≤ r.2) (hc : 0 ≤ c) : ∀ r ∈ letW t m c ps, 0 ≤ r.2 := by
  have key : ∀ x ∈ live t m ps, 0 ≤ x.2 := fun x hx => h x (List.mem_filter.mp hx).1
  intro r hr
  unfold letW at hr
  generalize live t m ps = lv at key hr
  cases hg : lv.getLast? with
  | none =>
    rw [hg] at hr
    rcases List.mem_append.mp hr with hr | hr
    · exact key r hr
    · rw [List.mem_singleton] at hr; rw [hr]; exact hc
  | some q =>
    rw [hg] at hr
    have hq := key q (List.mem_of_getLast? hg)
    dsimp only at hr
    split at hr
    · rcases List.mem_append.mp hr with hr | hr
      · exact key r (List.dropLast_subset _ hr)
      · rw [List.mem_singleton] at hr; rw [hr]; show 0 ≤ c + q.2; omega
    · rcases List.mem_append.mp hr with hr | hr
      · exact key r hr
      · rw [List.mem_singleton] at hr; rw [hr]; exact hc
theorem live_map {t m : Int} (qs : List (Addr × MC)) : live t m (qs.map (·.2)) = (qs.filter fun x => decide (x.2.1 > m - t)).map (·.2) := by
  unfold live
  rw [List.filter_map]
  rfl
theorem sumC_map (qs : List (Addr × MC)) : (qs.map fun x => x.2.2).sum = sumC (qs.map (·.2)) := by
  unfold sumC
  rw [List.map_map]
  rfl
/-! ### values as data; sorted of any data; a dict's items and values -/
mutual
/-- the value is that data: ints, texts, tuples of these -/
inductive Dat (K : PySem.W.Frag) (H : Hp) : V → PyData → Prop
  | int (i : Int) : Dat K H (.int i) (.int i)
  | str (x : Str) : Dat K H (.str x) (.str x)
  | tup {t : Addr} {vs : List V} {ds : List PyData} : SqT K H t vs → DatL K H vs ds → Dat K H (.ref t) (.tuple ds)
inductive DatL (K : PySem.W.Frag) (H : Hp) : List V → List PyData → Prop
  | nil : DatL K H [] []
  | cons {v : V} {d : PyData} {vs : List V} {ds : List PyData} : Dat K H v d → DatL K H vs ds → DatL K H (v :: vs) (d :: ds)
end
section
variable {X : Cx} {pins : List (Addr × Obj)} {σ : L2.St} {H : Hp} {s : Shared}
mutual
theorem Dat.reads (I : Inv X pins σ H s) : ∀ {v : V} {d : PyData} {u : Value}, Dat X.K H v d → RelV v u → Reads s.heap u d []
  | _, _, _, .int i, r => by
    obtain ⟨t, rfl⟩ := r
    exact .int i t
  | _, _, _, .str x, r => by
    obtain ⟨t, rfl⟩ := r
    exact .str x t
  | _, _, _, .tup h l, r => by
    obtain ⟨its, rv, ⟨o, ho, hc, n, hd⟩, _⟩ := I.tuple h
    have ra := DatL.reads I l rv
    cases r
    exact .tuple ho hc hd (by simpa using ra)
theorem DatL.reads (I : Inv X pins σ H s) : ∀ {vs : List V} {ds : List PyData} {us : List Value}, DatL X.K H vs ds → Vals vs us → ReadsAll s.heap us ds []
  | _, _, _, .nil, r => by
    cases r
    exact .nil
  | _, _, _, .cons h l, r => by
    cases r with
    | cons r1 r2 => exact .cons (as := []) (bs := []) (Dat.reads I h r1) (DatL.reads I l r2)
end
end
theorem each_of_maps {β : Type} {f : β → V} : ∀ {bs : List β} {us : List Value}, Vals (bs.map f) us → PySem.W.EachIs (fun u b => RelV (f b) u) us bs
  | [], _, r => by
    cases r
    exact .nil
  | b :: bs, _, r => by
    cases r with
    | cons h t => exact .cons h (each_of_maps t)
theorem maps_of_each {β : Type} {f : β → V} : ∀ {bs : List β} {us : List Value}, PySem.W.EachIs (fun u b => RelV (f b) u) us bs → Vals (bs.map f) us
  | _, _, .nil => .nil
  | _, _, .cons h t => .cons h (maps_of_each t)
theorem each_reads {X : Cx} {pins : List (Addr × Obj)} {σ : L2.St} {H : Hp} {s : Shared} {β : Type} {f : β → V} {enc : β → PyData} (I : Inv X pins σ H s) : ∀ {bs : List β} {us : List Value}, Vals (bs.map f) us → (∀ b ∈ bs, Dat X.K H (f b) (enc b)) → PySem.W.EachIs (fun u b => ∃ as, Reads s.heap u (enc b) as) us bs
  | [], _, r, _ => by
    cases r
    exact .nil
  | b :: bs, _, r, q => by
    cases r with
    | cons h t => exact .cons ⟨[], (q b List.mem_cons_self).reads I h⟩ (each_reads I t fun v hv => q v (List.mem_cons_of_mem _ hv))
/-- sorted(xs), xs any data -/
def rSortedD (K : PySem.W.Frag) : List V → Hp → VK → Prop := fun vs H Q => ∃ (a : Addr) (β : Type) (bs : List β) (f : β → V) (enc : β → PyData), vs = [V.ref a] ∧ SqL K H a (bs.map f) ∧ (∀ b ∈ bs, Dat K H (f b) (enc b)) ∧ PySem.W.AllAlike (bs.map enc) ∧ PySem.W.Sortable (bs.map enc) ∧
  (∀ b ∈ bs, (enc b).depth ≤ 8) ∧ ∀ p, H p = none → Q (.ref p) (upd H p (.lst ((bs.mergeSort (PySem.W.dataLe false enc)).map f)))
theorem cr_sortedD {X : Cx} (hu : X.A.units + 64 < cLine) : CallR X (.builtin "sorted") (rSortedD X.K) := by
  intro pins s σ H vs us Q I r h
  obtain ⟨a, β, bs, f, enc, rfl, hs, hd, hal, hk, hdep, q⟩ := h
  obtain ⟨its, rv, hl, hz⟩ := I.list hs
  rw [Vals.ref1 r]
  refine PySem.W.sorted_data (R := fun u b => RelV (f b) u) (enc := enc) (bs := bs) hl.isList (each_of_maps rv) (each_reads I rv hd) hal hk (by rw [List.length_map] at hz; exact hz) (fun b hb => ?_) fun out ho hout => ?_
  · have := hdep b hb
    omega
  · obtain ⟨ep, he'⟩ := PyProof.Rows.sortedAll_at s.heap its out.toArray
    have hlen : ((bs.mergeSort (PySem.W.dataLe false enc)).map f).length ≤ sizeLine := by
      rw [List.length_map, List.length_mergeSort]
      rw [List.length_map] at hz
      exact hz
    exact ⟨.ref _, upd H (s.heap.objs.size + 1) (.lst ((bs.mergeSort (PySem.W.dataLe false enc)).map f)), I.laid (t' := s.toks) (fun _ _ => PyProof.Rows.sortedAll_old) (Nat.le_succ _) ⟨hlen, out, ep, maps_of_each hout, he'⟩, rfl, q _ (I.hok.fresh (Nat.le_succ _))⟩
theorem cr_sortedDK {X : Cx} {K : PySem.W.Frag} (h : X.K = K) (hu : X.A.units + 64 < cLine) : CallR X (.builtin "sorted") (rSortedD K) := by subst h; exact cr_sortedD hu
/-! the views -/
/-! sorted(d.items()) -/
/-! steps -/
section
variable {K : PySem.W.Frag} {H : Hp} {Q : VK} {σ : L2.St} {a : Addr} {kvs : List (Key × V)} {v : V} {z : Str}
theorem isD_k (h : H a = some (.dK kvs)) : IsD H a := .inl ⟨kvs, .inl h⟩
def rDP1k (a : Addr) : V → Hp → VK → Prop := fun y H2 Q => ∃ kvs k v, H2 a = some (.dK kvs) ∧ y = kV k ∧ valV kvs k = some v ∧ Q v (upd H2 a (.dK (dropK kvs k)))
def rDP1 (ty : TE) (σ : L2.St) : V → Hp → VK → Prop := fun x H1 Q => ∃ a, x = .ref a ∧ IsD H1 a ∧ ty σ H1 fun y H2 => rDP1k a y H2 Q
theorem g_dpop1 {td ty : TE} (q : td σ H fun x H1 => rDP1 ty σ x H1 Q) : tDPop1 td ty σ H Q := q
theorem g_dp1 {ty : TE} (h : H a = some (.dK kvs)) (q : ty σ H fun y H2 => rDP1k a y H2 Q) : rDP1 ty σ (.ref a) H Q := ⟨a, rfl, isD_k h, q⟩
def rDP2k (a : Addr) (y : V) : V → Hp → VK → Prop := fun z H3 Q => ∃ kvs k, H3 a = some (.dK kvs) ∧ y = kV k ∧ (∀ v, valV kvs k = some v → Q v (upd H3 a (.dK (dropK kvs k)))) ∧ (valV kvs k = none → Q z H3)
def rDP2 (ty tx : TE) (σ : L2.St) : V → Hp → VK → Prop := fun x H1 Q => ∃ a, x = .ref a ∧ IsD H1 a ∧ ty σ H1 fun y H2 => tx σ H2 fun z H3 => rDP2k a y z H3 Q
theorem g_dpop2 {td ty tx : TE} (q : td σ H fun x H1 => rDP2 ty tx σ x H1 Q) : tDPop2 td ty tx σ H Q := q
theorem g_dp2 {ty tx : TE} (h : H a = some (.dK kvs)) (q : ty σ H fun y H2 => tx σ H2 fun z H3 => rDP2k a y z H3 Q) : rDP2 ty tx σ (.ref a) H Q := ⟨a, rfl, isD_k h, q⟩
end
/-! ### held: entries, their dict, plain law -/
abbrev EH : Type := Str × Int
def kvsH (es : List EH) : List (Key × V) := es.map fun e => (Sum.inr e.1, V.int e.2)
def sumH (es : List EH) : Int := (es.map (·.2)).sum
def keysH (es : List EH) : List Str := es.map (·.1)
theorem sumH_snoc (es : List EH) (e : EH) : sumH (es ++ [e]) = sumH es + e.2 := by
  unfold sumH
  rw [List.map_append, List.sum_append]
  simp
theorem valH_none {k : Str} : ∀ {es : List EH}, k ∉ keysH es → valV (kvsH es) (Sum.inr k) = none
  | [], _ => rfl
  | e :: es, h => by
    have h1 : ¬ e.1 = k := fun z => h (by rw [← z]; exact List.mem_cons_self)
    have h2 : k ∉ keysH es := fun z => h (List.mem_cons_of_mem _ z)
    show valV (((Sum.inr e.1 : Key), V.int e.2) :: kvsH es) (Sum.inr k) = none
    rw [valV_neg (fun z => h1 (Sum.inr.inj z))]
    exact valH_none h2
theorem putH {k : Str} {c : Int} {es : List EH} (h : k ∉ keysH es) : putK (kvsH es) (Sum.inr k) (.int c) = kvsH (es ++ [(k, c)]) := by
  unfold putK
  rw [valV_any, valH_none h]
  show (if false = true then _ else _) = _
  rw [if_neg (by decide)]
  unfold kvsH
  rw [List.map_append]
  rfl
/-! sorted entries -/
/-! ### keys that are k and a number -/
def keyN (j : Nat) : Str := ("k" : Str) ++ (toString (j : Int) : Str)
theorem keyN_inj {i j : Nat} (h : keyN i = keyN j) : i = j := by
  have h1 : tl (toString (i : Int) : Str) = tl (toString (j : Int) : Str) := by
    have := congrArg tl h
    unfold keyN at this
    rw [tl_append, tl_append] at this
    exact List.append_cancel_left this
  obtain ⟨k, hk, hk1, hk2⟩ : ∃ k, 0 < k ∧ i < 10 ^ k ∧ j < 10 ^ k := by
    refine ⟨i + j + 1, by omega, ?_, ?_⟩
    · exact Nat.lt_of_lt_of_le (Nat.lt_pow_self (by decide : 1 < 10)) (Nat.pow_le_pow_right (by decide) (by omega))
    · exact Nat.lt_of_lt_of_le (Nat.lt_pow_self (by decide : 1 < 10)) (Nat.pow_le_pow_right (by decide) (by omega))
  have a1 := num_back (i := (i : Int)) (k := k) (by omega) hk (by simpa using hk1)
  have a2 := num_back (i := (j : Int)) (k := k) (by omega) hk (by simpa using hk2)
  rw [h1, a2] at a1
  have := Option.some.inj a1
  omega
theorem keyN_new {j : Nat} : ("new" : Str) ≠ keyN j := by
  intro h
  have h1 := congrArg tl h
  unfold keyN at h1
  rw [tl_append] at h1
  have h2 : tl ("new" : Str) = [110, 101, 119] := by decide +kernel
  have h3 : tl ("k" : Str) = [107] := by decide +kernel
  rw [h2, h3] at h1
  cases h1
def KeysLt (i : Nat) (zs : List Str) : Prop := ∀ z ∈ zs, ∃ j : Nat, j < i ∧ z = keyN j
theorem KeysLt.up {i : Nat} {zs : List Str} (h : KeysLt i zs) : KeysLt (i + 1) zs := fun z hz => by
  obtain ⟨j, hj, e⟩ := h z hz
  exact ⟨j, by omega, e⟩
theorem KeysLt.fresh {i : Nat} {zs : List Str} (h : KeysLt i zs) : keyN i ∉ zs := fun hz => by
  obtain ⟨j, hj, e⟩ := h _ hz
  have := keyN_inj e
  omega
theorem KeysLt.new {i : Nat} {zs : List Str} (h : KeysLt i zs) : ("new" : Str) ∉ zs := fun hz => by
  obtain ⟨j, _, e⟩ := h _ hz
  exact keyN_new e
theorem KeysLt.snoc {i : Nat} {zs : List Str} (h : KeysLt i zs) : KeysLt (i + 1) (zs ++ [keyN i]) := fun z hz => by
  rcases List.mem_append.mp hz with hz | hz
  · exact h.up z hz
  · rw [List.mem_singleton] at hz
    exact ⟨i, by omega, hz⟩
theorem KeysLt.sub {i : Nat} {zs ys : List Str} (h : KeysLt i zs) (hs : ∀ y ∈ ys, y ∈ zs) : KeysLt i ys := fun y hy => h y (hs y hy)
/-! ### what is held -/
def keyR (x : Addr × R4) : Str := x.2.2.2.2
/-! ### limits of one number -/
def LimH (K : PySem.W.Frag) (H : Hp) (p : Addr) (nm : Str) (gs : List Str) (s : Int) : Prop := ∃ g n, SqT K H p [.str nm, .str "held", .ref g, .ref n] ∧ SqT K H g (gs.map V.str) ∧ SqT K H n [.int s]
/-- what stands, but the objects at m and at d -/
def ExD (m d : Addr) (H H' : Hp) : Prop := ∀ b o, b ≠ m → b ≠ d → H b = some o → H' b = some o
theorem ExD.of {m d : Addr} {H H' : Hp} (e : Ex H H') : ExD m d H H' := fun b o _ _ h => e b o h
theorem ExD.trans {m d : Addr} {H H' H2 : Hp} (e : ExD m d H H') (e2 : ExD m d H' H2) : ExD m d H H2 := fun b o h1 h2 h => e2 b o h1 h2 (e b o h1 h2 h)
theorem ExD.upM {m d : Addr} {H H' : Hp} {o : HO} (e : ExD m d H H') : ExD m d H (L2.upd H' m o) := fun b o h1 h2 h => by rw [upd_ne h1]; exact e b o h1 h2 h
theorem ExD.upD {m d : Addr} {H H' : Hp} {o : HO} (e : ExD m d H H') : ExD m d H (L2.upd H' d o) := fun b o h1 h2 h => by rw [upd_ne h2]; exact e b o h1 h2 h
theorem ExD.mut {m d q : Addr} {H H' : Hp} {o : HO} (e : ExD m d H H') (h : H q = none) : ExD m d H (L2.upd H' q o) := fun b u h1 h2 hu => by
  rw [upd_ne (fun z => by rw [z, h] at hu; cases hu)]
  exact e b u h1 h2 hu
theorem ExD.free {m d q : Addr} {H H' : Hp} (e : ExD m d H H') (h1 : q ≠ m) (h2 : q ≠ d) (h : H' q = none) : H q = none := by
  cases hq : H q with
  | none => rfl
  | some o => rw [e q o h1 h2 hq] at h; cases h
def flD (lim : Addr) (s : Int) (d : Addr) (u : Int) : List (Str × V) := [("limit", .ref lim), ("_most", .int s), ("_costs", .ref d), ("_used", .int u)]
theorem flD_set (lim : Addr) (s : Int) (d : Addr) (u v : Int) : putF "_used" (.int v) (flD lim s d u) = flD lim s d v := by
  unfold flD
  rw [putF_miss (by decide +kernel), putF_miss (by decide +kernel), putF_miss (by decide +kernel), putF_hit]
theorem flD_new (lim : Addr) (s : Int) (d : Addr) (u : Int) : putF "_used" (.int u) (putF "_costs" (.ref d) (putF "_most" (.int s) (putF "limit" (.ref lim) []))) = flD lim s d u := by
  have a1 : putF "limit" (.ref lim) [] = [(("limit" : Str), V.ref lim)] := rfl
  have a2 : putF "_most" (.int s) [(("limit" : Str), V.ref lim)] = [(("limit" : Str), V.ref lim), ("_most", .int s)] := by
    rw [putF_miss (by decide +kernel)]; rfl
  have a3 : putF "_costs" (.ref d) [(("limit" : Str), V.ref lim), ("_most", .int s)] = [(("limit" : Str), V.ref lim), ("_most", .int s), ("_costs", .ref d)] := by
    rw [putF_miss (by decide +kernel), putF_miss (by decide +kernel)]; rfl
  rw [a1, a2, a3, putF_miss (by decide +kernel), putF_miss (by decide +kernel), putF_miss (by decide +kernel)]
  rfl
/-- the meter -/
structure MAt (H : Hp) (C m dx p : Addr) (s : Int) (d : Addr) (es : List EH) : Prop where
  hm : H m = some (.ins C dx (flD p s d (sumH es)))
  hd : H d = some (.dK (kvsH es))
section
variable {K : PySem.W.Frag} {H H' : Hp} {C m dx p d : Addr} {s : Int} {es : List EH} {nm : Str} {gs : List Str}
theorem MAt.mono (M : MAt H C m dx p s d es) (e : Ex H H') : MAt H' C m dx p s d es := ⟨ex_at e M.hm, ex_at e M.hd⟩
theorem MAt.ne (M : MAt H C m dx p s d es) : m ≠ d := fun z => by have := M.hm; rw [z, M.hd] at this; cases this
theorem MAt.sqT {q : Addr} {vs : List V} (M : MAt H C m dx p s d es) (e : ExD m d H H') (h : SqT K H q vs) : SqT K H' q vs := by
  rcases h with (h | ⟨o, h⟩) | h
  · exact .inl (.inl (e q _ (fun z => by rw [z, M.hm] at h; cases h) (fun z => by rw [z, M.hd] at h; cases h) h))
  · exact .inl (.inr ⟨o, e q _ (fun z => by rw [z, M.hm] at h; cases h) (fun z => by rw [z, M.hd] at h; cases h) h⟩)
  · exact .inr h
theorem MAt.sqL {q : Addr} {vs : List V} (M : MAt H C m dx p s d es) (e : ExD m d H H') (h : SqL K H q vs) : SqL K H' q vs := by
  rcases h with (h | ⟨o, h⟩) | h
  · exact .inl (.inl (e q _ (fun z => by rw [z, M.hm] at h; cases h) (fun z => by rw [z, M.hd] at h; cases h) h))
  · exact .inl (.inr ⟨o, e q _ (fun z => by rw [z, M.hm] at h; cases h) (fun z => by rw [z, M.hd] at h; cases h) h⟩)
  · exact .inr h
theorem MAt.lst {q : Addr} {vs : List V} (M : MAt H C m dx p s d es) (e : ExD m d H H') (h : H q = some (.lst vs)) : H' q = some (.lst vs) := e q _ (fun z => by rw [z, M.hm] at h; cases h) (fun z => by rw [z, M.hd] at h; cases h) h
theorem MAt.dK {q : Addr} {vs : List (Key × V)} (M : MAt H C m dx p s d es) (e : ExD m d H H') (hq : q ≠ d) (h : H q = some (.dK vs)) : H' q = some (.dK vs) := e q _ (fun z => by rw [z, M.hm] at h; cases h) hq h
theorem LimH.mono {q : Addr} (h : LimH K H q nm gs s) (e : Ex H H') : LimH K H' q nm gs s := by
  obtain ⟨g, n, h1, h2, h3⟩ := h
  exact ⟨g, n, ex_sqT e h1, ex_sqT e h2, ex_sqT e h3⟩
theorem LimH.exP {q : Addr} {fs : List (Str × V)} (h : LimH K H q nm gs s) (hm : H m = some (.ins C dx fs)) (e : ExP m H H') : LimH K H' q nm gs s := by
  obtain ⟨g, n, h1, h2, h3⟩ := h
  exact ⟨g, n, exP_sqT hm e h1, exP_sqT hm e h2, exP_sqT hm e h3⟩
theorem LimH.exD {q : Addr} {s2 : Int} (h : LimH K H q nm gs s2) (M : MAt H C m dx p s d es) (e : ExD m d H H') : LimH K H' q nm gs s2 := by
  obtain ⟨g, n, h1, h2, h3⟩ := h
  exact ⟨g, n, M.sqT e h1, M.sqT e h2, M.sqT e h3⟩
theorem LimH.lst {q pl : Addr} {ys : List V} {o : HO} (h : LimH K H q nm gs s) (hA : H pl = some (.lst ys)) : LimH K (upd H pl o) q nm gs s := by
  obtain ⟨g, n, h1, h2, h3⟩ := h
  exact ⟨g, n, sqT_lst hA h1, sqT_lst hA h2, sqT_lst hA h3⟩
end
/-! ### tuples of entries as data -/
/-! ### the walk's state -/
structure WStH (K : PySem.W.Frag) (C m dx p l d : Addr) (ns : List Int) (gs : List Str) (s : Int) (pl pg : Addr) (es : List EH) (xs : List (Addr × R4)) (gone : List Str) (H : Hp) : Prop where
  M : MAt H C m dx p s d es
  hL : LimH K H p "held1" gs s
  hS : SqL K H l (ns.map V.int)
  hA : H pl = some (.lst (xs.map fun x => V.ref x.1))
  hG : H pg = some (.lst (gone.map V.str))
  hR : RowsG K H xs
section
variable {K : PySem.W.Frag} {C m dx p l d : Addr} {ns : List Int} {gs : List Str} {s : Int} {pl pg : Addr} {es es2 : List EH} {xs : List (Addr × R4)} {gone : List Str} {H H' : Hp}
theorem WStH.mono (w : WStH K C m dx p l d ns gs s pl pg es xs gone H) (e : Ex H H') : WStH K C m dx p l d ns gs s pl pg es xs gone H' :=
  ⟨w.M.mono e, w.hL.mono e, ex_sqL e w.hS, ex_at e w.hA, ex_at e w.hG, w.hR.mono e⟩
theorem WStH.exD (w : WStH K C m dx p l d ns gs s pl pg es xs gone H) (e : ExD m d H H') (h : MAt H' C m dx p s d es2) : WStH K C m dx p l d ns gs s pl pg es2 xs gone H' :=
  ⟨h, w.hL.exD w.M e, w.M.sqL e w.hS, w.M.lst e w.hA, w.M.lst e w.hG, fun x hx => w.M.sqT e (w.hR x hx)⟩
end
/-- the state of the many requests -/
structure MSH (K : PySem.W.Frag) (H : Hp) (C m dx p : Addr) (s : Int) (d hd : Addr) (es : List EH) : Prop where
  M : MAt H C m dx p s d es
  hL : LimH K H p "many" [] s
  hH : H hd = some (.dK (kvsH es))
  ne : hd ≠ d
section
variable {K : PySem.W.Frag} {H H' : Hp} {C m dx p d hd : Addr} {s : Int} {es es2 : List EH}
theorem MSH.mono (w : MSH K H C m dx p s d hd es) (e : Ex H H') : MSH K H' C m dx p s d hd es := ⟨w.M.mono e, w.hL.mono e, ex_at e w.hH, w.ne⟩
/-- the meter has moved on; now the other dict does -/
theorem MSH.step (w : MSH K H C m dx p s d hd es) (e : ExD m d H H') (M2 : MAt H' C m dx p s d es2) : MSH K (upd H' hd (.dK (kvsH es2))) C m dx p s d hd es2 := by
  have h2 := w.M.dK e w.ne w.hH
  refine ⟨⟨by rw [upd_ne (fun z => by have := M2.hm; rw [z, h2] at this; cases this)]; exact M2.hm, by rw [upd_ne (Ne.symm w.ne)]; exact M2.hd⟩, ?_, upd_same, w.ne⟩
  obtain ⟨g, n, h3, h4, h5⟩ := w.hL.exD w.M e
  exact ⟨g, n, sqT_updD h2 h3, sqT_updD h2 h4, sqT_updD h2 h5⟩
theorem MSH.same (w : MSH K H C m dx p s d hd es) (e : ExD m d H H') (M2 : MAt H' C m dx p s d es) : MSH K H' C m dx p s d hd es := ⟨M2, w.hL.exD w.M e, w.M.dK e w.ne w.hH, w.ne⟩
end
/-! ### steps: a value or another one, d[k], dict comprehensions, comprehensions over items, new tuples in a comprehension -/
section
variable {X : Cx} {K : PySem.W.Frag} {H : Hp} {Q : VK} {σ : L2.St}
def rDGet : V → V → Hp → VK → Prop := fun x y H2 Q => ∃ a v, x = .ref a ∧ DGet H2 a y (some v) ∧ Q v H2
theorem g_dget {td ty : TE} (q : td σ H fun x H1 => ty σ H1 fun y H2 => rDGet x y H2 Q) : tDGet td ty σ H Q := q
theorem g_dgetS {a : Addr} {kvs : List (Key × V)} {z : Str} {v : V} (h : H a = some (.dK kvs)) (hv : valV kvs (Sum.inr z) = some v) (q : Q v H) : rDGet (.ref a) (.str z) H Q := ⟨a, v, rfl, by rw [← hv]; exact DGet.k (k := Sum.inr z) h, q⟩
end
/-! ### pools: plain law -/
abbrev S3 : Type := Str × Int × Int
abbrev E3 : Type := Str × Str × Int
def kvsG {α : Type} (key : α → Str) (val : α → V) (es : List α) : List (Key × V) := es.map fun e => (Sum.inr (key e), val e)
section
variable {α : Type} {key : α → Str} {val : α → V} {k : Str} {es : List α}
theorem valG_none : ∀ {es : List α}, k ∉ es.map key → valV (kvsG key val es) (Sum.inr k) = none
  | [], _ => rfl
  | e :: es, h => by
    have h1 : ¬ key e = k := fun z => h (by rw [← z]; exact List.mem_cons_self)
    have h2 : k ∉ es.map key := fun z => h (List.mem_cons_of_mem _ z)
    show valV (((Sum.inr (key e) : Key), val e) :: kvsG key val es) (Sum.inr k) = none
    rw [valV_neg (fun z => h1 (Sum.inr.inj z))]
    exact valG_none h2
theorem valG_some : ∀ {es : List α}, k ∈ es.map key → ∃ e, e ∈ es ∧ key e = k ∧ valV (kvsG key val es) (Sum.inr k) = some (val e)
  | [], h => nomatch h
  | e :: es, h => by
    by_cases h1 : key e = k
    · refine ⟨e, List.mem_cons_self, h1, ?_⟩
      show valV (((Sum.inr (key e) : Key), val e) :: kvsG key val es) (Sum.inr k) = _
      rw [valV_pos (by rw [h1])]
    · have h2 : k ∈ es.map key := by
        rcases List.mem_cons.mp h with z | z
        · exact absurd z.symm h1
        · exact z
      obtain ⟨x, x1, x2, x3⟩ := valG_some h2
      refine ⟨x, List.mem_cons_of_mem _ x1, x2, ?_⟩
      show valV (((Sum.inr (key e) : Key), val e) :: kvsG key val es) (Sum.inr k) = _
      rw [valV_neg (fun z => h1 (Sum.inr.inj z))]
      exact x3
theorem valG_is : (valV (kvsG key val es) (Sum.inr k)).isSome = decide (k ∈ es.map key) := by
  by_cases h : k ∈ es.map key
  · obtain ⟨e, _, _, c1⟩ := valG_some (val := val) h
    rw [c1, decide_eq_true h]
    rfl
  · rw [valG_none h, decide_eq_false h]
    rfl
theorem putG {e : α} (h : key e ∉ es.map key) : putK (kvsG key val es) (Sum.inr (key e)) (val e) = kvsG key val (es ++ [e]) := by
  unfold putK
  rw [valV_any, valG_none h]
  show (if false = true then _ else _) = _
  rw [if_neg (by decide)]
  unfold kvsG
  rw [List.map_append]
  rfl
theorem dropG (k : Str) (es : List α) : dropK (kvsG key val es) (Sum.inr k) = kvsG key val (es.filter fun e => decide (key e ≠ k)) := by
  unfold dropK kvsG
  rw [List.filter_map]
  congr 1
  apply List.filter_congr
  intro e _
  show decide ((Sum.inr (key e) : Key) ≠ Sum.inr k) = decide (key e ≠ k)
  rw [Bool.eq_iff_iff, decide_eq_true_eq, decide_eq_true_eq]
  exact ⟨fun z w => z (by rw [w]), fun z w => z (Sum.inr.inj w)⟩
theorem kvsG_len (h : es.length ≤ 1000) : (kvsG key val es).length < sizeLine := by
  unfold kvsG
  rw [List.length_map, sizeLine_eq]
  omega
end
/-- what a group uses -/
def useP (es : List E3) (n : Str) : Int := ((es.filter fun e => decide (e.2.1 = n)).map (·.2.2)).sum
theorem useP_cons (e : E3) (es : List E3) (n : Str) : useP (e :: es) n = (if e.2.1 = n then e.2.2 else 0) + useP es n := by
  unfold useP
  by_cases h : e.2.1 = n
  · rw [List.filter_cons_of_pos (by simp [h]), if_pos h]
    rfl
  · rw [List.filter_cons_of_neg (by simp [h]), if_neg h, Int.zero_add]
theorem useP_snoc (es : List E3) (e : E3) (n : Str) : useP (es ++ [e]) n = useP es n + if e.2.1 = n then e.2.2 else 0 := by
  induction es with
  | nil =>
    show useP [e] n = 0 + _
    rw [useP_cons, Int.zero_add]
    show _ + 0 = _
    rw [Int.add_zero]
  | cons x es ih =>
    rw [List.cons_append, useP_cons, useP_cons, ih]
    omega
def usesK (sh : List S3) (es : List E3) : List (Key × V) := sh.map fun s => (Sum.inr s.1, V.int (useP es s.1))
theorem uses_val {sh : List S3} {es : List E3} {n : Str} (h : n ∈ sh.map (·.1)) : valV (usesK sh es) (Sum.inr n) = some (.int (useP es n)) := by
  obtain ⟨s, _, s2, s3⟩ := valG_some (key := fun s : S3 => s.1) (val := fun s => V.int (useP es s.1)) h
  rw [s2] at s3
  exact s3
theorem uses_put {sh : List S3} {es es2 : List E3} {g : Str} {v : Int} (hg : g ∈ sh.map (·.1)) (h : ∀ s ∈ sh, useP es2 s.1 = if s.1 = g then v else useP es s.1) : putK (usesK sh es) (Sum.inr g) (.int v) = usesK sh es2 := by
  unfold putK
  rw [valV_any, uses_val hg]
  show (if true = true then _ else _) = _
  rw [if_pos rfl]
  unfold usesK
  rw [List.map_map]
  apply List.map_congr_left
  intro s hs
  show (if (Sum.inr s.1 : Key) = Sum.inr g then ((Sum.inr s.1 : Key), V.int v) else (Sum.inr s.1, V.int (useP es s.1))) = (Sum.inr s.1, V.int (useP es2 s.1))
  rw [h s hs]
  by_cases e : s.1 = g
  · rw [if_pos (by rw [e]), if_pos e]
  · rw [if_neg (fun z => e (Sum.inr.inj z)), if_neg e]
theorem usesK_len {sh : List S3} {es : List E3} (h : sh.length ≤ 8) : (usesK sh es).length < sizeLine := by
  unfold usesK
  rw [List.length_map, sizeLine_eq]
  omega
def posI (x : Int) : Int := if x > 0 then x else 0
def ownP (sh : List S3) : Int := (sh.map (·.2.1)).sum
def borP (sh : List S3) (u : Str → Int) : Int := (sh.map fun s => posI (u s.1 - s.2.1)).sum
def seesP (sh : List S3) (g : Str) : Bool := decide (g ∈ sh.map (·.1))
def shareP (sh : List S3) (g : Str) : Int × Int := match sh.find? fun s => decide (s.1 = g) with
  | some s => s.2
  | none => (0, 0)
def roomP (most : Int) (sh : List S3) (es : List E3) (g : Str) (c : Int) : Bool := !seesP sh g || (!decide (useP es g + c > (shareP sh g).2) && decide (borP sh (fun n => if n = g then useP es n + c else useP es n) ≤ most - ownP sh))
structure ShOk (sh : List S3) : Prop where
  nd : (sh.map (·.1)).Nodup
  pos : ∀ s ∈ sh, 0 ≤ s.2.1 ∧ s.2.1 ≤ s.2.2
  ok : ∀ s ∈ sh, PyData.strOk s.1 = true
  len : sh.length ≤ 8
/-! what is held -/
def keyE (e : E3) : Str := e.1
def e3R (x : Addr × R4) : E3 := (keyR x, x.2.2.1, x.2.2.2.1)
section
variable {sh : List S3} {gone : List Str} {xs : List (Addr × R4)}
theorem roomP_skip {most : Int} {es : List E3} {g : Str} {c : Int} (h : seesP sh g = false) : roomP most sh es g c = true := by
  unfold roomP
  rw [h]
  rfl
end
/-! ### pools: limits and meters in the heap -/
def LimP (K : PySem.W.Frag) (H : Hp) (p : Addr) (nm : Str) (most : Int) (sh : List S3) : Prop := ∃ (g n t : Addr) (ads : List (Addr × S3)), SqT K H p [.str nm, .str "pool", .ref g, .ref n] ∧ SqT K H g [] ∧ SqT K H n [.int most, .ref t] ∧ SqT K H t (ads.map fun x => V.ref x.1) ∧ (∀ x ∈ ads, SqT K H x.1 [.str x.2.1, .int x.2.2.1, .int x.2.2.2]) ∧ ads.map (·.2) = sh ∧ sh.length ≤ 8
def flP (lim dC dU : Addr) : List (Str × V) := [("limit", .ref lim), ("_costs", .ref dC), ("_uses", .ref dU)]
theorem flP_new (lim dC dU : Addr) : putF "_uses" (.ref dU) (putF "_costs" (.ref dC) (putF "limit" (.ref lim) [])) = flP lim dC dU := by
  have a1 : putF "limit" (.ref lim) [] = [(("limit" : Str), V.ref lim)] := rfl
  have a2 : putF "_costs" (.ref dC) [(("limit" : Str), V.ref lim)] = [(("limit" : Str), V.ref lim), ("_costs", .ref dC)] := by
    rw [putF_miss (by decide +kernel)]; rfl
  rw [a1, a2, putF_miss (by decide +kernel), putF_miss (by decide +kernel)]
  rfl
def costsK (es : List (Addr × E3)) : List (Key × V) := kvsG (fun x : Addr × E3 => x.2.1) (fun x => V.ref x.1) es
/-- the meter -/
structure MAtP (K : PySem.W.Frag) (H : Hp) (C m dx p dC dU : Addr) (sh : List S3) (es : List E3) : Prop where
  hm : H m = some (.ins C dx (flP p dC dU))
  hc : ∃ ads : List (Addr × E3), ads.map (·.2) = es ∧ H dC = some (.dK (costsK ads)) ∧ ∀ x ∈ ads, SqT K H x.1 [.str x.2.2.1, .int x.2.2.2]
  hu : H dU = some (.dK (usesK sh es))
  ne : dC ≠ dU
  hg : ∀ e ∈ es, e.2.1 ∈ sh.map (·.1)
section
variable {K : PySem.W.Frag} {H H' : Hp} {C m dx p dC dU : Addr} {most : Int} {sh : List S3} {es es2 : List E3} {nm : Str}
theorem MAtP.mono (M : MAtP K H C m dx p dC dU sh es) (e : Ex H H') : MAtP K H' C m dx p dC dU sh es := by
  obtain ⟨ads, h1, h2, h3⟩ := M.hc
  exact ⟨ex_at e M.hm, ⟨ads, h1, ex_at e h2, fun x hx => ex_sqT e (h3 x hx)⟩, ex_at e M.hu, M.ne, M.hg⟩
theorem MAtP.sqT {q : Addr} {vs : List V} (M : MAtP K H C m dx p dC dU sh es) (e : ExD dC dU H H') (h : SqT K H q vs) : SqT K H' q vs := by
  obtain ⟨ads, _, h2, _⟩ := M.hc
  rcases h with (h | ⟨o, h⟩) | h
  · exact .inl (.inl (e q _ (fun z => by rw [z, h2] at h; cases h) (fun z => by rw [z, M.hu] at h; cases h) h))
  · exact .inl (.inr ⟨o, e q _ (fun z => by rw [z, h2] at h; cases h) (fun z => by rw [z, M.hu] at h; cases h) h⟩)
  · exact .inr h
theorem MAtP.sqL {q : Addr} {vs : List V} (M : MAtP K H C m dx p dC dU sh es) (e : ExD dC dU H H') (h : SqL K H q vs) : SqL K H' q vs := by
  obtain ⟨ads, _, h2, _⟩ := M.hc
  rcases h with (h | ⟨o, h⟩) | h
  · exact .inl (.inl (e q _ (fun z => by rw [z, h2] at h; cases h) (fun z => by rw [z, M.hu] at h; cases h) h))
  · exact .inl (.inr ⟨o, e q _ (fun z => by rw [z, h2] at h; cases h) (fun z => by rw [z, M.hu] at h; cases h) h⟩)
  · exact .inr h
theorem MAtP.lst {q : Addr} {vs : List V} (M : MAtP K H C m dx p dC dU sh es) (e : ExD dC dU H H') (h : H q = some (.lst vs)) : H' q = some (.lst vs) := by
  obtain ⟨ads, _, h2, _⟩ := M.hc
  exact e q _ (fun z => by rw [z, h2] at h; cases h) (fun z => by rw [z, M.hu] at h; cases h) h
theorem LimP.mono {q : Addr} (h : LimP K H q nm most sh) (e : Ex H H') : LimP K H' q nm most sh := by
  obtain ⟨g, n, t, ads, h1, h2, h3, h4, h5, h6⟩ := h
  exact ⟨g, n, t, ads, ex_sqT e h1, ex_sqT e h2, ex_sqT e h3, ex_sqT e h4, fun x hx => ex_sqT e (h5 x hx), h6⟩
theorem LimP.exP {q : Addr} {fs : List (Str × V)} (h : LimP K H q nm most sh) (hm : H m = some (.ins C dx fs)) (e : ExP m H H') : LimP K H' q nm most sh := by
  obtain ⟨g, n, t, ads, h1, h2, h3, h4, h5, h6⟩ := h
  exact ⟨g, n, t, ads, exP_sqT hm e h1, exP_sqT hm e h2, exP_sqT hm e h3, exP_sqT hm e h4, fun x hx => exP_sqT hm e (h5 x hx), h6⟩
theorem LimP.exD {q : Addr} {m2 : Int} {sh2 : List S3} (h : LimP K H q nm m2 sh2) (M : MAtP K H C m dx p dC dU sh es) (e : ExD dC dU H H') : LimP K H' q nm m2 sh2 := by
  obtain ⟨g, n, t, ads, h1, h2, h3, h4, h5, h6⟩ := h
  exact ⟨g, n, t, ads, M.sqT e h1, M.sqT e h2, M.sqT e h3, M.sqT e h4, fun x hx => M.sqT e (h5 x hx), h6⟩
theorem LimP.lst {q pl : Addr} {ys : List V} {o : HO} (h : LimP K H q nm most sh) (hA : H pl = some (.lst ys)) : LimP K (upd H pl o) q nm most sh := by
  obtain ⟨g, n, t, ads, h1, h2, h3, h4, h5, h6⟩ := h
  exact ⟨g, n, t, ads, sqT_lst hA h1, sqT_lst hA h2, sqT_lst hA h3, sqT_lst hA h4, fun x hx => sqT_lst hA (h5 x hx), h6⟩
end
/-! sorted entries -/
def WE (K : PySem.W.Frag) (e : E3) (y : V) (H : Hp) : Prop := ∃ t, y = .ref t ∧ SqT K H t [.str e.1, .str e.2.1, .int e.2.2]
theorem WE.mono {K : PySem.W.Frag} {e : E3} {y : V} {H H' : Hp} (w : WE K e y H) (x : Ex H H') : WE K e y H' := by
  obtain ⟨t, h1, h2⟩ := w
  exact ⟨t, h1, ex_sqT x h2⟩
theorem WE.lst {K : PySem.W.Frag} {e : E3} {y : V} {H : Hp} {D : Addr} {acc : List V} {o : HO} (w : WE K e y H) (hD : H D = some (.lst acc)) : WE K e y (upd H D o) := by
  obtain ⟨t, h1, h2⟩ := w
  exact ⟨t, h1, sqT_lst hD h2⟩
/-! ### the walk's state -/
structure WStP (K : PySem.W.Frag) (C m dx p l dC dU : Addr) (ns : List Int) (most : Int) (sh : List S3) (pl pg : Addr) (es : List E3) (xs : List (Addr × R4)) (gone : List Str) (H : Hp) : Prop where
  M : MAtP K H C m dx p dC dU sh es
  hL : LimP K H p "pool1" most sh
  hS : SqL K H l (ns.map V.int)
  hA : H pl = some (.lst (xs.map fun x => V.ref x.1))
  hG : H pg = some (.lst (gone.map V.str))
  hR : RowsG K H xs
section
variable {K : PySem.W.Frag} {C m dx p l dC dU : Addr} {ns : List Int} {most : Int} {sh : List S3} {pl pg : Addr} {es es2 : List E3} {xs : List (Addr × R4)} {gone : List Str} {H H' : Hp}
theorem WStP.mono (w : WStP K C m dx p l dC dU ns most sh pl pg es xs gone H) (e : Ex H H') : WStP K C m dx p l dC dU ns most sh pl pg es xs gone H' :=
  ⟨w.M.mono e, w.hL.mono e, ex_sqL e w.hS, ex_at e w.hA, ex_at e w.hG, w.hR.mono e⟩
theorem WStP.exD (w : WStP K C m dx p l dC dU ns most sh pl pg es xs gone H) (e : ExD dC dU H H') (h : MAtP K H' C m dx p dC dU sh es2) : WStP K C m dx p l dC dU ns most sh pl pg es2 xs gone H' :=
  ⟨h, w.hL.exD w.M e, w.M.sqL e w.hS, w.M.lst e w.hA, w.M.lst e w.hG, fun x hx => w.M.sqT e (w.hR x hx)⟩
end
/-! ### dict comprehensions, comprehensions over items -/
section
variable {X : Cx} {K : PySem.W.Frag} {H : Hp} {Q : VK} {σ : L2.St}
def DcOk (J : It) (g : TG) (tt : TT) (tk tv : TE) (vs : List Nat) (Q : VK) (σ : L2.St) (H1 : Hp) : Prop := ∀ D, H1 D = none → ∃ W : Nat → Nat → Hp → Prop, (∃ m, W 0 m (upd H1 D (.dK []))) ∧ ∀ i m H, W i m H →
  (J.stop i H ∧ Q (.ref D) H) ∨ (J.go i H ∧ ∃ Nx : Hp → Prop, (∀ H', Nx H' → ∃ m', m' < m ∧ W (i + 1) m' H') ∧ ∀ x H', J.yld i H x H' → g x (wipe σ vs) H' fun σ2 H2 => wipe σ2 vs = wipe σ vs ∧ tt σ2 H2 fun b H3 =>
    if b = true then tk σ2 H3 fun y H4 => tv σ2 H4 fun z H5 => ∃ kvs k, y = kV k ∧ H5 D = some (.dK kvs) ∧ kvs.length < sizeLine ∧ Nx (upd H5 D (.dK (putK kvs k z))) else Nx H3)
theorem g_dc {wi : TI} {g : TG} {tt : TT} {tk tv : TE} {vs : List Nat} (q : wi σ H fun J H1 => DcOk J g tt tk tv vs Q σ H1) : tDc wi g tt tk tv vs σ H Q := q
theorem dc_new {a : Addr} {α : Type} {xs : List α} {g : TG} {tk tv : TE} {vs : List Nat} (enc : α → V) (key : α → Str) (val : α → V) (hS : SqT K H a (xs.map enc)) (hnd : (xs.map key).Nodup) (hn : xs.length ≤ 1000)
    (hs : ∀ x ∈ xs, ∀ H1, Ex H H1 → ∀ R : V → V → Hp → Prop, (∀ H3, Ex H1 H3 → R (.str (key x)) (val x) H3) → g (enc x) (wipe σ vs) H1 fun σ2 H3 => wipe σ2 vs = wipe σ vs ∧ tk σ2 H3 fun y H4 => tv σ2 H4 fun z H5 => R y z H5)
    (hq : ∀ p H', H p = none → Ex H H' → H' p = some (.dK (kvsG key val xs)) → Q (.ref p) H') : DcOk (Itt K a) g tYes tk tv vs Q σ H := by
  intro D hD
  refine dc_tup (xs := xs.map enc) (fun i H' => Ex H H' ∧ H' D = some (.dK (kvsG key val (xs.take i)))) ⟨Evl.Ex.new hD, upd_same⟩ (fun i H' _ h => ex_sqT h.1 hS) (fun i x H1 hx hP => ?_) (fun H' h => ?_)
  · obtain ⟨hE, hL⟩ := hP
    rw [List.getElem?_map] at hx
    cases e : xs[i]? with
    | none => rw [e] at hx; cases hx
    | some y =>
      rw [e] at hx
      have ex : enc y = x := Option.some.inj hx
      subst ex
      have hT : xs.take (i + 1) = xs.take i ++ [y] := by rw [List.take_add_one, e]; rfl
      have key2 := hs y (List.mem_of_getElem? e) H1 hE (fun y z H5 => ∃ kvs k, y = kV k ∧ H5 D = some (.dK kvs) ∧ kvs.length < sizeLine ∧ (Ex H (upd H5 D (.dK (putK kvs k z))) ∧ (upd H5 D (.dK (putK kvs k z))) D = some (.dK (kvsG key val (xs.take (i + 1)))))) fun H3 e3 => by
        refine ⟨_, Sum.inr (key y), rfl, e3 _ _ hL, kvsG_len (by rw [List.length_take]; omega), Evl.Ex.mut (hE.trans e3) hD, ?_⟩
        have hnew : key y ∉ (xs.take i).map key := by
          have hd := hnd
          rw [← List.take_append_drop (i + 1) xs, hT, List.map_append, List.map_append, List.nodup_append, List.nodup_append] at hd
          exact fun z => hd.1.2.2 _ z _ (by show key y ∈ [key y]; exact List.mem_singleton.mpr rfl) rfl
        rw [upd_same, putG hnew, hT]
      exact key2
  · rw [List.length_map, List.take_of_length_le (Nat.le_refl _)] at h
    exact hq D H' hD h.1 h.2
end
/-! ### steps for pools -/
theorem row_getX {β : Type} {ads : List (Addr × β)} {i : Nat} {y : V} (h : (ads.map fun x => V.ref x.1)[i]? = some y) : ∃ px r, ads[i]? = some (px, r) ∧ y = .ref px := by
  rw [List.getElem?_map] at h
  cases hx : ads[i]? with
  | none => rw [hx] at h; cases h
  | some x =>
    rw [hx] at h
    exact ⟨x.1, x.2, rfl, (Option.some.inj h).symm⟩
theorem share_at {ads : List (Addr × S3)} {i : Nat} {px : Addr} {r : S3} {g : Str} (hb : ∀ x ∈ ads.take i, x.2.1 ≠ g) (hi : ads[i]? = some (px, r)) (hr : r.1 = g) : shareP (ads.map (·.2)) g = r.2 := by
  have e : ads = ads.take i ++ (px, r) :: ads.drop (i + 1) := by
    have hl := (List.getElem?_eq_some_iff.mp hi).1
    have he := (List.getElem?_eq_some_iff.mp hi).2
    have hd : ads.drop i = (px, r) :: ads.drop (i + 1) := by rw [List.drop_eq_getElem_cons hl, he]
    rw [← hd, List.take_append_drop]
  unfold shareP
  rw [e, List.map_append, List.find?_append]
  have h1 : ((ads.take i).map (·.2)).find? (fun s => decide (s.1 = g)) = none := by
    rw [List.find?_eq_none]
    intro s hs
    obtain ⟨x, hx, rfl⟩ := List.mem_map.mp hs
    have := hb x hx
    simpa using this
  rw [h1, List.map_cons, Option.none_or, List.find?_cons_of_pos (by simpa using hr)]
theorem share_no {sh : List S3} {g : Str} (hb : ∀ s ∈ sh, s.1 ≠ g) : shareP sh g = (0, 0) := by
  unfold shareP
  have h1 : sh.find? (fun s => decide (s.1 = g)) = none := by
    rw [List.find?_eq_none]
    intro s hs
    have := hb s hs
    simpa using this
  rw [h1]
theorem borP_snoc (sh : List S3) (s : S3) (u : Str → Int) : borP (sh ++ [s]) u = borP sh u + posI (u s.1 - s.2.1) := by
  unfold borP
  rw [List.map_append, List.sum_append]
  simp
theorem take_snd {β : Type} {ads : List (Addr × β)} {i : Nat} {px : Addr} {r : β} (h : ads[i]? = some (px, r)) : (ads.map (·.2)).take (i + 1) = (ads.map (·.2)).take i ++ [r] := by
  rw [List.take_add_one, List.getElem?_map, h]
  rfl
section
variable {ads : List (Addr × E3)} {k : Str}
theorem costs_keys : ads.map (fun x : Addr × E3 => x.2.1) = (ads.map (·.2)).map keyE := by rw [List.map_map]; rfl
theorem costs_put {p : Addr} {g : Str} {c : Int} (h : k ∉ (ads.map (·.2)).map keyE) : putK (costsK ads) (Sum.inr k) (.ref p) = costsK (ads ++ [(p, (k, g, c))]) := by
  rw [← costs_keys] at h
  exact putG (key := fun x : Addr × E3 => x.2.1) (val := fun x => V.ref x.1) (e := (p, (k, g, c))) h
theorem costs_drop : dropK (costsK ads) (Sum.inr k) = costsK (ads.filter fun x => decide (x.2.1 ≠ k)) := dropG (key := fun x : Addr × E3 => x.2.1) k ads
theorem costs_len (h : (ads.map (·.2)).length ≤ 1000) : (costsK ads).length < sizeLine := kvsG_len (by rw [List.length_map] at h; exact h)
end
/-! ### many requests -/
structure MSP (K : PySem.W.Frag) (H : Hp) (C m dx p dC dU : Addr) (most : Int) (sh : List S3) (ph : Addr) (xs : List (Addr × R4)) : Prop where
  M : MAtP K H C m dx p dC dU sh (xs.map e3R)
  hL : LimP K H p "many" most sh
  hA : H ph = some (.lst (xs.map fun x => V.ref x.1))
  hR : RowsG K H xs
section
variable {K : PySem.W.Frag} {H H' : Hp} {C m dx p dC dU ph : Addr} {most : Int} {sh : List S3} {xs ys : List (Addr × R4)}
theorem MSP.mono (w : MSP K H C m dx p dC dU most sh ph xs) (e : Ex H H') : MSP K H' C m dx p dC dU most sh ph xs := ⟨w.M.mono e, w.hL.mono e, ex_at e w.hA, w.hR.mono e⟩
end
/-! ### sets of texts: set(xs), len, sorted -/
def keyS (e : Int × Value) : Str := match e.2 with
  | .str x _ => x
  | _ => Str.empty
def OkS (P : Program) (w : World) (e : Int × Value) : Prop := ∃ x tk, e.2 = .str x tk ∧ e.1 = (PySem.strKind P w).hash x
/-- a set of the texts of xs, with a table that can be walked -/
def TextSet (P : Program) (w : World) (h : Heap) (a : Addr) (xs : List Str) : Prop :=
  ∃ o es ep t, h.get? a = some o ∧ o.ExactSet ∧ o.data = .set es ep t ∧ (∀ e ∈ es.toList, OkS P w e) ∧ (es.toList.map keyS).Nodup ∧ (∀ k, k ∈ es.toList.map keyS ↔ k ∈ xs) ∧ es.size ≤ xs.length ∧ t.fits es.size = true ∧ Ris t.place.toList ∧ (w.params.followText "set-order" = true ∨ t.led = true)
section
variable {P : Program} {w : World} {h h' : Heap} {a : Addr} {xs : List Str}
theorem TextSet.at (R : TextSet P w h a xs) (k : ∀ o, h.get? a = some o → h'.get? a = some o) : TextSet P w h' a xs := by
  obtain ⟨o, es, ep, t, ho, r⟩ := R
  exact ⟨o, es, ep, t, k o ho, r⟩
theorem okS_elems {l : List (Int × Value)} (g : ∀ e ∈ l, OkS P w e) : ElemsOf (PySem.strKind P w) l := fun e he => by
  obtain ⟨x, tk, h1, h2⟩ := g e he
  exact ⟨⟨x, by rw [h1]; exact strKind_is _ _ _ _, h2⟩, by rw [h1]; rfl⟩
theorem okS_is {e : Int × Value} (g : OkS P w e) (k : Str) : (PySem.strKind P w).is k e.2 = true ↔ keyS e = k := by
  obtain ⟨x, tk, h1, _⟩ := g
  have hx : (PySem.strKind P w).is x e.2 = true := by rw [h1]; exact strKind_is _ _ _ _
  have hk : keyS e = x := by unfold keyS; rw [h1]
  rw [hk]
  constructor
  · exact fun hh => (PySem.strKind P w).inj _ _ _ hx hh
  · intro hh
    rw [← hh]
    exact hx
theorem okS_mem {l : List (Int × Value)} (g : ∀ e ∈ l, OkS P w e) (k : Str) : k ∈ l.map keyS ↔ ∃ e ∈ l, (PySem.strKind P w).is k e.2 = true := by
  rw [List.mem_map]
  constructor
  · rintro ⟨e, he, q⟩
    exact ⟨e, he, (okS_is (g e he) k).2 q⟩
  · rintro ⟨e, he, q⟩
    exact ⟨e, he, (okS_is (g e he) k).1 q⟩
theorem textSet_new (ho : h.get? a = some { cls := .type "set", dict := none, data := .set #[] 0 (.fresh 0 0 (!w.params.followText "set-order")) }) : TextSet P w h a [] :=
  ⟨_, #[], 0, _, ho, ⟨rfl, rfl, rfl⟩, rfl, (fun e he => by simp at he), (by simp), (fun k => by simp), Nat.le_refl _, (by rfl), List.Pairwise.nil, by
    show _ ∨ (!w.params.followText "set-order") = true
    cases w.params.followText "set-order"
    · exact .inr rfl
    · exact .inl rfl⟩
end
section
variable {P : Program} {w : World} {A : Around} {E : Value → Shared → Prop} {s : Shared} {a : Addr} {xs : List Str}
/-- what stands behind storing a new row of entries -/
theorem textSet_store {g : Bool → Sem Unit} (hg : ∀ (b : Bool) (s₁ : Shared) (Q' : Unit → Shared → Prop), Q' () s₁ → wpAny (model P w) A (g b) Q' E s₁)
    {o : Obj} {es : Array (Int × Value)} {ep : Nat} {t : SetTable} (ho : s.heap.get? a = some o) (hex : o.ExactSet) (hd : o.data = .set es ep t)
    {es1 : Array (Int × Value)} {t2 : SetTable} {ys : List Str} (g1 : ∀ e ∈ es1.toList, OkS P w e) (nd1 : (es1.toList.map keyS).Nodup) (m1 : ∀ k, k ∈ es1.toList.map keyS ↔ k ∈ ys)
    (hle : es1.size ≤ ys.length) (hb1 : es1.size < scanBound) (hf2 : t2.fits es1.size = true) (hr : Ris t2.place.toList) (hl : w.params.followText "set-order" = true ∨ t2.led = true) {wasDummy : Bool} {R : Option Bool → Shared → Prop}
    (hR : ∀ h', Heap.SameBut a s.heap h' → TextSet P w h' a ys → R (some true) { s with heap := h' }) :
    wpAny (model P w) A (do
        storeSet a es1 t2
        if (!wasDummy && t2.tooFull) = true then do
            g (relayAll t2 es1 (SetTable.grown es1.size)).2.2
            storeSet a (relayAll t2 es1 (SetTable.grown es1.size)).1 (relayAll t2 es1 (SetTable.grown es1.size)).2.1
            pure (some true)
          else pure (some true)) R E s := by
  refine wpAny_bind (wpAny_storeSet_of ho hd ?_ (fits_of_scanBound hb1))
  have ho1 := store_at (es' := es1) (t' := t2) ho hd
  have sb1 := Heap.SameBut.update s.heap a (Obj.putSet es1 t2)
  split
  · have pm := relayAll_perm t2 es1 (SetTable.grown es1.size)
    have hf3 := relayAll_fits t2 es1 (SetTable.grown es1.size)
    have hr3 := relayAll_ris t2 es1 (SetTable.grown es1.size)
    have hl3 := relayAll_led t2 es1 (SetTable.grown es1.size)
    generalize relayAll t2 es1 (SetTable.grown es1.size) = Z at pm hf3 hr3 hl3 ⊢
    obtain ⟨es2, t3, gave⟩ := Z
    dsimp only at pm hf3 hr3 hl3 ⊢
    have hsz : es2.size = es1.size := by rw [← Array.length_toList, pm.length_eq, Array.length_toList]
    refine wpAny_bind (hg _ _ _ ?_)
    refine wpAny_bind (wpAny_storeSet_of ho1 rfl ?_ (fits_of_scanBound (by rw [hsz]; exact hb1)))
    have ho2 := store_at (es' := es2) (t' := t3) ho1 rfl
    refine wpAny_pure (hR _ (sb1.trans (Heap.SameBut.update _ a _)) ?_)
    exact ⟨_, es2, _, t3, ho2, hex, rfl, fun e he => g1 e (pm.mem_iff.mp he), (pm.map keyS).nodup_iff.mpr nd1, fun k => (pm.map keyS).mem_iff.trans (m1 k), by rw [hsz]; exact hle, hf3, hr3, hl.imp id fun z => by rw [hl3]; exact z⟩
  · exact wpAny_pure (hR _ sb1 ⟨_, es1, _, t2, ho1, hex, rfl, g1, nd1, m1, hle, hf2, hr, hl⟩)
theorem textSet_add {k : Str} {tk : Tok} {Q : Bool → Shared → Prop} (R : TextSet P w s.heap a xs) (room : xs.length + 1 < scanBound)
    (hQ : ∀ b h', Heap.SameBut a s.heap h' → TextSet P w h' a (xs ++ [k]) → Q b { s with heap := h' }) :
    wpAny (model P w) A (setAddHashed a (.str k tk) ((PySem.strKind P w).hash k)) Q E s := by
  obtain ⟨o, es, ep, t, ho, hex, hd, g, nd, hm, hn, hf, hr, hl⟩ := R
  have hb : es.size < scanBound := by omega
  have hkey : (PySem.strKind P w).is k (.str k tk) = true := strKind_is _ _ _ _
  have hsc : (Value.str k tk).scannable = true := rfl
  have hel : ElemsOf (PySem.strKind P w) es.toList := okS_elems g
  unfold setAddHashed setAddHashedIn
  refine wpAny_holding (wpAny_bind (wpAny_setState_of ho hd hf ?_))
  dsimp only
  rw [byScan_of hsc hb hel]
  simp only [↓reduceIte]
  unfold setAddByScan
  refine wpAny_bind ?_
  refine wpAny_bind (wpAny_rule ?_)
  refine wpAny_bind (wpAny_setScan_of hkey ho hd hf hel ?_)
  cases hfi : List.findIdx? (fun e => (PySem.strKind P w).is k e.2) es.toList with
  | some j =>
    dsimp only
    obtain ⟨hj, pj, _⟩ := List.findIdx?_eq_some_iff_getElem.mp hfi
    have hk : k ∈ xs := (hm k).1 ((okS_mem g k).2 ⟨es.toList[j], List.getElem_mem hj, pj⟩)
    refine wpAny_pure (wpAny_pure (hQ _ s.heap (Heap.SameBut.refl a s.heap) ⟨o, es, ep, t, ho, hex, hd, g, nd, fun i => ?_, by rw [List.length_append]; show _ ≤ _ + 1; omega, hf, hr, hl⟩))
    rw [hm i, List.mem_append, List.mem_singleton]
    exact ⟨.inl, fun z => z.elim id fun e => by rw [e]; exact hk⟩
  | none =>
    dsimp only
    have hnk : k ∉ es.toList.map keyS := fun z => by
      obtain ⟨e, he, q⟩ := (okS_mem g k).1 z
      have c := List.findIdx?_eq_none_iff.mp hfi e he
      rw [q] at c
      cases c
    have hgw : ∀ (b : Bool) {s₁ : Shared} {Q' : Unit → Shared → Prop}, Q' () s₁ → wpAny (model P w) A (match b with | true => rule "set.scan.the-table-gave-way" | false => pure ()) Q' E s₁ :=
      fun b s₁ Q' q => by cases b <;> first | exact wpAny_pure q | exact wpAny_rule q
    have pm := layNew_perm t es ((PySem.strKind P w).hash k) (.str k tk)
    have hf1 := layNew_fits t es ((PySem.strKind P w).hash k) (.str k tk)
    have hr1 := layNew_ris t es ((PySem.strKind P w).hash k) (.str k tk) hr
    have hl1 := layNew_led t es ((PySem.strKind P w).hash k) (.str k tk)
    generalize layNew t es ((PySem.strKind P w).hash k) (.str k tk) = Z at pm hf1 hr1 hl1 ⊢
    obtain ⟨es1, t1, wasDummy, gave⟩ := Z
    dsimp only at pm hf1 hr1 hl1 ⊢
    rw [Array.toList_push] at pm
    have pc : es1.toList.Perm (((PySem.strKind P w).hash k, Value.str k tk) :: es.toList) := pm.trans (List.perm_append_singleton _ _)
    have pk : (es1.toList.map keyS).Perm (k :: es.toList.map keyS) := pc.map keyS
    have g1 : ∀ e ∈ es1.toList, OkS P w e := fun e he => by
      rcases List.mem_cons.mp (pc.mem_iff.mp he) with z | z
      · rw [z]; exact ⟨k, tk, rfl, rfl⟩
      · exact g e z
    have nd1 : (es1.toList.map keyS).Nodup := pk.nodup_iff.mpr (List.nodup_cons.mpr ⟨hnk, nd⟩)
    have m1 : ∀ i, i ∈ es1.toList.map keyS ↔ i ∈ xs ++ [k] := fun i => by
      rw [pk.mem_iff, List.mem_cons, hm i, List.mem_append, List.mem_singleton]
      exact Or.comm
    have hsz : es1.size = es.size + 1 := by rw [← Array.length_toList, pc.length_eq, List.length_cons, Array.length_toList]
    have hle : es1.size ≤ (xs ++ [k]).length := by rw [hsz, List.length_append]; show _ ≤ _ + 1; omega
    have hb1 : es1.size < scanBound := by omega
    have hled : w.params.followText "set-order" = true ∨ t1.led = true := hl.imp id fun z => by rw [hl1]; exact z
    refine wpAny_bind (hgw _ ?_)
    split
    · refine wpAny_bind ?_
      rw [hashByValue_scannable 8 hsc]
      refine wpAny_pure ?_
      refine textSet_store ?_ ho hex hd g1 nd1 m1 hle hb1 ?_ ?_ ?_ ?_
      · intro b s₁ Q' q; cases b <;> first | exact wpAny_pure q | exact wpAny_rule q
      · first | (split <;> first | exact hf1 | exact SetTable.fits_plain_off hf1) | exact hf1
      · first | (split <;> exact hr1) | exact hr1
      · first | (split <;> exact hled) | exact hled
      · intro h' sb r; dsimp only; exact wpAny_pure (hQ _ h' sb r)
    · refine wpAny_bind (wpAny_pure ?_)
      simp only [↓reduceIte]
      refine textSet_store ?_ ho hex hd g1 nd1 m1 hle hb1 hf1 hr1 hled ?_
      · intro b s₁ Q' q; cases b <;> first | exact wpAny_pure q | exact wpAny_rule q
      · intro h' sb r; dsimp only; exact wpAny_pure (hQ _ h' sb r)
/-- the loop of set.update over n texts -/
theorem textSet_loop {I : Addr} {fp wr : List Addr} {G : Array GenState → Array GenState → Prop} {n : Nat} {Pv : Nat → Value → Prop} {St : Nat → Shared → Prop} {R : Result → Shared → Prop}
    (W : WalksS P w A.in1 I fp wr G n Pv St) (S : Addr) (hSf : S ∉ fp) (xs : List Str) (hn : n = xs.length) (hb : xs.length + 1 < scanBound) (hval : ∀ i v, Pv i v → ∃ t, v = .str (xs.getD i Str.empty) t) :
    ∀ (k i : Nat) (s : Shared), n - i = k → i ≤ n → St i s → TextSet P w s.heap S (xs.take i) →
      (∀ s', Moved (S :: wr) G s s' → TextSet P w s'.heap S xs → R (.ok (.ret .none)) s') →
      codeAny (model P w) A (.builtin "set.update.loop" ⟨[.ref S, .ref I], []⟩) R s := by
  have hSw : S ∉ wr := fun h => hSf (W.sub _ h)
  have hsub : ∀ b ∈ wr, b ∈ S :: wr := fun b hb => List.mem_cons_of_mem _ hb
  intro k
  induction k with
  | zero =>
    intro i s hk' hi hst hS hR
    have hin : i = n := by omega
    subst hin
    refine codeAny_builtin PyProof.Rows.F.entry_set_update_loop ?_
    rw [Around.under_plainId PyProof.Rows.F.plain_set_update_loop _]
    show wpAny _ A.in1 (pyNext (.ref I) >>= _) _ _ s
    refine wpAny_bind (W.done s _ _ hst fun s' hm => ?_)
    show wpAny _ A.in1 (ret Value.none) _ _ s'
    rw [List.take_of_length_le (by omega)] at hS
    exact wpAny_pure (hR s' (hm.mono hsub) (hS.at fun o e => hm.heap S o hSw e))
  | succ k ih =>
    intro i s hk' hi hst hS hR
    have hlt : i < n := by omega
    refine codeAny_builtin PyProof.Rows.F.entry_set_update_loop ?_
    rw [Around.under_plainId PyProof.Rows.F.plain_set_update_loop _]
    show wpAny _ A.in1 (pyNext (.ref I) >>= _) _ _ s
    refine wpAny_bind (W.item i s _ _ hlt hst fun v s' hP hst' hm => ?_)
    obtain ⟨t, rfl⟩ := hval i v hP
    have hS' : TextSet P w s'.heap S (xs.take i) := hS.at fun o e => hm.heap S o hSw e
    show wpAny _ A.in1 (holding [Value.str (xs.getD i Str.empty) t] (setAdd S (.str (xs.getD i Str.empty) t)) >>= _) _ _ s'
    refine wpAny_bind (wpAny_holding ?_)
    unfold setAdd
    refine wpAny_holding ?_
    refine wpAny_bind ((PySem.strKind P w).pyHash (k := xs.getD i Str.empty) (strKind_is _ _ _ _) ?_)
    refine textSet_add (s := { s' with toks := s'.toks + 1 }) hS' (by rw [List.length_take]; omega) fun b h' hsb hS2 => ?_
    have hS3 : TextSet P w h' S (xs.take (i + 1)) := by
      have e : xs.take (i + 1) = xs.take i ++ [xs.getD i Str.empty] := by
        rw [List.take_add_one, List.getD_eq_getElem?_getD, List.getElem?_eq_getElem (by omega)]
        rfl
      rw [e]
      exact hS2
    refine wpAny_pure ⟨plainId_quiet PyProof.Rows.F.plain_set_update_loop _, ih (i + 1) _ (by omega) hlt (W.frame _ s' _ _ hst' (Nat.le_succ _) fun b hb o e => ?_) hS3 fun s'' hm'' hS'' => ?_⟩
    · rw [hsb.2 b (fun h : b = S => hSf (by rw [← h]; exact hb))]; exact e
    · refine hR s'' (Moved.trans W.gtrans ((hm.mono hsub).then_heap (Nat.le_succ _) fun b o hb e => ?_) hm'') hS''
      rw [hsb.2 b (fun h : b = S => hb (by rw [h]; exact List.mem_cons_self))]; exact e
end
section
variable {P : Program} {w : World} {A : Around} {E : Value → Shared → Prop} {s : Shared}
/-- set(xs), xs a list of texts -/
theorem call_textSet {l : Addr} {items : Array Value} {xs : List Str} {Q : Value → Shared → Prop} (hh : A.handled = none) (hl : s.heap.IsList l items) (hit : StrsAre items.toList xs) (hb : xs.length + 1 < scanBound)
    (h : ∀ (h' : Heap) (tk : Nat), TextSet P w h' s.heap.objs.size xs → (∀ b o, s.heap.get? b = some o → h'.get? b = some o) → Q (.ref s.heap.objs.size) { s with heap := h', toks := tk }) :
    wpAny (model P w) A (call (.type "set") [.ref l]) Q E s := by
  have hsz : items.size = xs.length := by
    have q := StrsAre.len_eq hit
    rw [Array.length_toList] at q
    exact q
  obtain ⟨c, tl, hmro⟩ := PySem.F.called_set.mro
  have hmade := PySem.F.called_set.made
  have hsub := PySem.F.called_set.sub
  refine wpAny_call (codeAny_of_tree ?_)
  show wpAny _ _ (callAny (.type "set") _) _ _ _
  refine wpAny_pure ⟨Code.quiet_builtin _ (by decide +kernel), codeAny_builtin PySem.F.entry_type_call ?_⟩
  rw [Around.under_plain (weight_type_call_type "set" [.ref l] []) rfl]
  have h1 := PySem.F.called_set.notType
  have h2 := PySem.F.called_set.canCreate
  have hct := PySem.F.typeCall_set_1 (.ref l)
  repeat (any_goals (first | assumption | wp_step))
  refine codeAny_mono (code_set_led1 (.ref l) (E := E) (Q₁ := fun obj s₁ => obj = .ref s.heap.objs.size ∧ s₁ = { s with heap := s.heap.push { cls := .type "set", dict := none, data := .set #[] 0 (.fresh 0 0 (!w.params.followText "set-order")) } }) ⟨rfl, rfl⟩) fun r s₁ hr => ?_
  cases r with
  | error e => exact hr
  | ok fl =>
    cases fl with
    | ret obj =>
      obtain ⟨rfl, rfl⟩ := hr
      have hS : (s.heap.push { cls := .type "set", dict := none, data := .set #[] 0 (.fresh 0 0 (!w.params.followText "set-order")) }).get? s.heap.objs.size = some { cls := .type "set", dict := none, data := .set #[] 0 (.fresh 0 0 (!w.params.followText "set-order")) } := Heap.get?_push_size _ rfl
      have hT : Shared.TypeIs { s with heap := s.heap.push { cls := .type "set", dict := none, data := .set #[] 0 (.fresh 0 0 (!w.params.followText "set-order")) } } (.ref s.heap.objs.size) "set" := ⟨_, hS, rfl⟩
      have hli := PySem.F.called_set.init.lookup
      have hbi := PySem.F.called_set.init.bind (.ref s.heap.objs.size)
      repeat (any_goals (first | assumption | wp_step))
      refine codeAny_mono (codeAny_call_builtin (R := wants (fun r s₂ => r = .none ∧ ∃ h' tk, s₂ = { s with heap := h', toks := tk } ∧ TextSet P w h' s.heap.objs.size xs ∧ (∀ b o, s.heap.get? b = some o → h'.get? b = some o)) E)
        PySem.F.called_set.init.plain PySem.F.entry_set_init (check_set_init_1 hT ?_)) fun r₂ s₂ hr₂ => ?_
      · obtain ⟨⟨ocls, odict, odata, oslots⟩, hol, hcl, nl, hdl⟩ := hl
        simp only at hcl hdl
        subst hcl; subst hdl
        have hol' : (s.heap.push { cls := .type "set", dict := none, data := .set #[] 0 (.fresh 0 0 (!w.params.followText "set-order")) }).get? l = some { cls := .type "list", dict := odict, data := .seq items nl, slots := oslots } := Heap.get?_push_of_some _ hol
        have hsls := PySem.F.sub_list_set
        have hslf := PySem.F.sub_list_frozenset
        have hne : (Value.type "list" == Value.type "dict") = false := by decide
        have hl1 : (s.heap.push { cls := .type "set", dict := none, data := .set #[] 0 (.fresh 0 0 (!w.params.followText "set-order")) }).IsList l items := ⟨_, hol', rfl, nl, rfl⟩
        unfold Builtin.«set.__init__» noKeywords Builtin.Frozenset.updateFrom
        generalize hPI : pyIter = PI
        wp_walk
        subst hPI
        refine wpAny_pyIter_list hl1 ?_
        refine wpAny_bind (wpAny_runValue ?_)
        have hlS : l < s.heap.objs.size := Heap.lt_size hol
        have hh3 : A.in1.in1.in1.handled = none := by simp [hh]
        have hneI : l ≠ (s.heap.push { cls := .type "set", dict := none, data := .set #[] 0 (.fresh 0 0 (!w.params.followText "set-order")) }).objs.size := by
          rw [Heap.size_push]; exact Nat.ne_of_lt (Nat.lt_succ_of_lt hlS)
        have hSf : s.heap.objs.size ∉ [(s.heap.push { cls := .type "set", dict := none, data := .set #[] 0 (.fresh 0 0 (!w.params.followText "set-order")) }).objs.size, l] := by
          rw [Heap.size_push]; simp only [List.mem_cons, List.mem_singleton, List.not_mem_nil, or_false, not_or]
          exact ⟨Nat.ne_of_lt (Nat.lt_succ_self _), Nat.ne_of_gt hlS⟩
        have hval : ∀ (i : Nat) (v : Value), items[i]? = some v → ∃ t, v = .str (xs.getD i Str.empty) t := fun i v hv => SS.strs_at hit i v (by rw [Array.getElem?_toList]; exact hv)
        refine textSet_loop ((Walks.list hh3 _ l hneI items).toS) s.heap.objs.size hSf xs hsz hb hval (items.size - 0) 0 _ (by omega) (Nat.zero_le _)
          ⟨⟨_, Heap.get?_push_size _ rfl, rfl, rfl⟩, (hl1.push _)⟩ ?hS0 ?hR
        case hS0 =>
          refine textSet_new ?_
          exact Heap.get?_push_of_some _ hS
        case hR =>
          intro s' hm hS'
          obtain ⟨h', g2, d', tk', os'⟩ := s'
          have eg : g2 = s.gens := hm.gens
          have ed : d' = s.drawn := hm.drawn
          have eo : os' = s.os := hm.os
          subst eg; subst ed; subst eo
          show wpAny _ _ _ _ _ _
          refine wpAny_pure ?_
          show wpAny _ _ (ret Value.none) _ _ _
          refine wpAny_pure ⟨rfl, h', tk', rfl, hS', fun b o e => ?_⟩
          have hb0 : b < s.heap.objs.size := Heap.lt_size e
          have hb1 : b ≠ s.heap.objs.size := Nat.ne_of_lt hb0
          have hb2 : b ≠ (s.heap.push { cls := .type "set", dict := none, data := .set #[] 0 (.fresh 0 0 (!w.params.followText "set-order")) }).objs.size := by
            rw [Heap.size_push]; exact Nat.ne_of_lt (Nat.lt_succ_of_lt hb0)
          exact hm.heap b o (by simp only [List.mem_cons, List.mem_singleton, List.not_mem_nil, or_false, not_or]; exact ⟨hb1, hb2⟩) (Heap.get?_push_of_some _ (Heap.get?_push_of_some _ e))
      · cases r₂ with
        | error e => exact hr₂
        | ok fl₂ =>
          cases fl₂ with
          | ret r =>
            obtain ⟨rfl, h', tk, rfl, hS', hk'⟩ := hr₂
            repeat (any_goals (first | assumption | wp_step))
            exact h _ _ hS' hk'
          | _ => exact hr₂.elim
    | _ => exact hr.elim
end
/-! rules -/
def textsO (P : Program) (w : World) (a : Addr) (xs : List Str) : HO := .ext fun h => TextSet P w h a xs
section
variable {X : Cx}
theorem textsO_new {w : World} {P : Program} {H : Hp} {h : Heap} {a : Addr} {xs : List Str} (R : TextSet P w h a xs) : ObjOk P w H h a (textsO P w a xs) :=
  ⟨R, (by obtain ⟨o, _, _, _, ho, _⟩ := R; exact ⟨o, ho⟩), fun h1 h2 x k => x.at k⟩
def rSetT (P : Program) (w : World) (K : PySem.W.Frag) : List V → Hp → VK → Prop := fun vs H Q => ∃ (l : Addr) (xs : List Str), vs = [V.ref l] ∧ SqL K H l (xs.map V.str) ∧ xs.length ≤ 4000 ∧ ∀ p, H p = none → Q (.ref p) (upd H p (textsO P w p xs))
theorem call_setT (hc : X.calm = true) : CallR X (.type "set") (rSetT X.prog X.w X.K) := by
  intro pins s σ H vs us Q I r h
  obtain ⟨l, xs, rfl, hs, hn, q⟩ := h
  obtain rfl := Vals.ref1 r
  obtain ⟨its, rv, pl, hz⟩ := I.list hs
  have hsb : scanBound = 4096 := rfl
  refine call_textSet (I.ok.hd hc) pl.isList (by simpa using strsAre_of rv) (by omega) fun h' tk hS hk => ?_
  have hf : H s.heap.objs.size = none := I.hok.fresh (Nat.le_refl _)
  exact ⟨.ref s.heap.objs.size, upd H s.heap.objs.size (textsO X.prog X.w s.heap.objs.size xs), I.laid (t' := tk) hk (Nat.le_refl _) (textsO_new hS), rfl, q _ hf⟩
theorem call_setTK {P : Program} {w : World} {K : PySem.W.Frag} (h1 : X.prog = P) (h2 : X.w = w) (h3 : X.K = K) (hc : X.calm = true) : CallR X (.type "set") (rSetT P w K) := by subst h1 h2 h3; exact call_setT hc
/-- len(s) -/
def rLenT (P : Program) (w : World) : List V → Hp → VK → Prop := fun vs H Q => ∃ (a : Addr) (xs : List Str), vs = [V.ref a] ∧ H a = some (textsO P w a xs) ∧ xs.length ≤ 4000 ∧ ∀ ys : List Str, ys.Nodup → (∀ k, k ∈ ys ↔ k ∈ xs) → Q (.int ys.length) H
theorem call_lenT : CallR X (.builtin "len") (rLenT X.prog X.w) := by
  intro pins s σ H vs us Q I r h
  obtain ⟨a, xs, rfl, ha, hx, q⟩ := h
  obtain rfl := Vals.ref1 r
  obtain ⟨o, es, ep, t, ho, hex, hd, g, nd, hm, hn, hf, hr, hl⟩ := (show ObjOk X.prog X.w H s.heap a (textsO X.prog X.w a xs) from I.hok a _ ha).1
  have hlen : (es.toList.map keyS).length = es.size := by rw [List.length_map, Array.length_toList]
  refine call_len_set ho hex hd hf ?_ ⟨.int (es.toList.map keyS).length, H, I.tok _, ⟨_, by rw [hlen]⟩, q _ nd hm⟩
  omega
theorem call_lenTK {P : Program} {w : World} (h1 : X.prog = P) (h2 : X.w = w) : CallR X (.builtin "len") (rLenT P w) := by subst h1 h2; exact call_lenT
end
/-! ### sorted(xs, key=f), f a def of the text -/
section
open PySem.Calls PySem.W
variable {prog : Program} {w : World} {A : Around} {E : Value → Shared → Prop} {s : Shared} {a kS : Addr} {b : Bool} {vs : List Value} {e1 : Nat} {P : PySem.Fin → Shared → Prop} {kz : List PyData}
theorem cut (h : Heap) (c : Addr) : ∃ G : Heap, (∀ b, b ≠ c → G.get? b = h.get? b) ∧ G.get? c = none := by
  obtain ⟨G, g1, g2⟩ := L2.restrict h fun b => decide (b ≠ c)
  exact ⟨G, fun b hb => g1 b (by simpa using hb), g2 c (by simp)⟩
theorem keyJ_rest {f : Value} {J : Shared → Prop} (hJ : ∀ s' g tk, J s' → (∀ b o, b ≠ a → b ≠ kS → s'.heap.get? b = some o → g.get? b = some o) → J { s' with heap := g, toks := tk })
    (j0 : J s) (nk : s.heap.get? kS = some (seqObj "list" #[] 0)) (na : s.heap.get? a = some (seqObj "list" #[] e1)) (hka : kS ≠ a)
    (hlen : kz.length = vs.length) (hZ : vs.length ≤ sizeLine) (hal : AllAlike kz) (hsk : Sortable kz) (hu : ∀ d, d ∈ kz → A.units + d.depth < cLine)
    (turn : ∀ (i : Nat) (v : Value) (k : PyData), vs[i]? = some v → kz[i]? = some k → ∀ (s' : Shared) (kA : Array Value) (e : Nat), J s' → s'.heap.get? kS = some (seqObj "list" kA e) → s'.heap.get? a = some (seqObj "list" #[] e1) →
      wpAny (model prog w) A (call f [v]) (fun u s'' => J s'' ∧ s''.heap.get? kS = some (seqObj "list" kA e) ∧ s''.heap.get? a = some (seqObj "list" #[] e1) ∧ ∀ h, Reads h u k []) (fun _ _ => False) s')
    (h : ∀ s' out c, J s' → s'.heap.get? a = some (seqObj "list" (List.toArray out) c) → KeyedOut b kz vs out → P (.done (.ret .none)) s') :
    wpAny (model prog w) A (ksk_rest a f b vs.toArray e1 (.ref kS)) P E s := by
  unfold ksk_rest
  refine wpAny_bind (wpAny_rule ?_)
  first
    | rw [List.forIn_toArray]
    | (rw [← Array.forIn_toList]; simp only [List.toList_toArray])
    | rw [← Array.forIn_toList]
  refine wpAny_bind (ksk_fold (fun i s' => ∃ kA e, J s' ∧ s'.heap.get? kS = some (seqObj "list" kA e) ∧ s'.heap.get? a = some (seqObj "list" #[] e1) ∧ EachIs (fun v k => ∀ h, Reads h v k []) kA.toList (kz.take i)) vs 0 s
    ⟨#[], 0, j0, nk, na, by rw [List.take_zero]; exact EachIs.nil⟩ ?step ?done)
  case step =>
    rintro j x s' hx ⟨kA, e, j', nk', na', hk⟩
    simp only [Nat.zero_add] at hk ⊢
    have hj : j < vs.length := (List.getElem?_eq_some_iff.mp hx).1
    obtain ⟨k, hkj⟩ : ∃ k, kz[j]? = some k := ⟨_, List.getElem?_eq_getElem (by omega)⟩
    have hz : kA.size ≤ vs.length := by
      have h1 := hk.length
      rw [Array.length_toList, List.length_take] at h1
      omega
    refine wpAny_bind (wpAny_attempt (wpAny_mono (turn j x k hx hkj s' kA e j' nk' na') (fun v s'' he => ?_) fun _ _ hF => hF.elim))
    obtain ⟨j2, nk2, na2, hr⟩ := he
    try dsimp only
    have s1 := Heap.SameBut.update s''.heap kS (Obj.mapSeq (·.push v))
    obtain ⟨c2, hc2⟩ : ∃ c2, (s''.heap.update kS (Obj.mapSeq (·.push v))).get? kS = some (seqObj "list" (kA.push v) c2) := ⟨_, get?_update_seq nk2 (·.push v)⟩
    have ek : kz.take (j + 1) = kz.take j ++ [k] := by rw [List.take_add_one, hkj]; simp
    have ea : (kA.push v).toList = kA.toList ++ [v] := by simp
    refine wpAny_bind (listUpdate_at nk2 rfl ?_ (Nat.le_trans hz hZ) (Nat.le_trans (Nat.le_of_eq (Array.size_push ..)) (Nat.succ_le_succ (Nat.le_trans hz hZ))))
    refine wpAny_pure ⟨rfl, kA.push v, c2, ?_, hc2, (s1.2 a hka.symm).trans na2, ?_⟩
    · exact hJ s'' _ s''.toks j2 fun b o _ hb q => (s1.2 b hb).trans q
    · rw [ea, ek]
      exact each_snoc (R := fun (u : Value) (d : PyData) => ∀ h, Reads h u d []) hr hk
  case done =>
    rintro s' ⟨kA, e, j', nk', na', hk⟩
    have hk0 : EachIs (fun v k => ∃ as, Reads s'.heap v k as) kA.toList kz := by
      have e3 : kz.take (0 + vs.length) = kz := List.take_of_length_le (by omega)
      rw [e3] at hk
      exact hk.mono fun u k q => ⟨[], q _⟩
    have hsz : kA.size = vs.length := by
      have h1 := hk0.length
      rw [Array.length_toList] at h1
      omega
    try dsimp only
    obtain ⟨G, g1, g2⟩ := cut s'.heap kS
    have kp : KeepsBut a G s'.heap := fun b o hb q => by
      by_cases hbk : b = kS
      · rw [hbk, g2] at q; cases q
      · rw [← g1 b hbk]; exact q
    refine wpAny_bind (listItems_at nk' rfl ?_)
    refine keyH_end (κ := dataKind s'.heap kz) (h₁ := G) kp g2 nk' na' hka (SortsAt.data hk0 hal hsk hu) hsz hZ fun h3 tk3 c k3 n3 => h _ _ c (hJ s' h3 tk3 j' fun b o hb1 hb2 q => k3 b o hb1 (by rw [g1 b hb2]; exact q)) n3 ⟨s'.heap, kA.toList, hal, rfl, hk0⟩
theorem sorted_keyJ {β : Type} {bs : List β} {R : Value → β → Prop} {l : Addr} {fq : Addr} {Q : Value → Shared → Prop} {J : Shared → Prop} (k : β → PyData) (hl : s.heap.IsList l vs.toArray) (e : EachIs R vs bs) (hal : AllAlike (bs.map k)) (hk : Sortable (bs.map k)) (hL : bs.length ≤ sizeLine)
    (hu : ∀ x, x ∈ bs → A.units + 2 + (k x).depth < cLine)
    (hJ : ∀ a kS, s.heap.objs.size ≤ a → s.heap.objs.size ≤ kS → ∀ s' g tk, J s' → (∀ b o, b ≠ a → b ≠ kS → s'.heap.get? b = some o → g.get? b = some o) → J { s' with heap := g, toks := tk })
    (j0 : J s)
    (turn : ∀ a kS, s.heap.objs.size ≤ a → s.heap.objs.size ≤ kS → ∀ (v : Value) (x : β), R v x → x ∈ bs → ∀ (s' : Shared) (oa ok : Obj), J s' → s'.heap.get? kS = some ok → s'.heap.get? a = some oa →
      wpAny (model prog w) A.in1.in1 (call (.ref fq) [v]) (fun u s'' => J s'' ∧ s''.heap.get? kS = some ok ∧ s''.heap.get? a = some oa ∧ ∀ h, Reads h u (k x) []) (fun _ _ => False) s')
    (h : ∀ s' out c, J s' → s'.heap.get? (s.heap.objs.size + 1) = some (seqObj "list" (List.toArray out) c) → EachIs R out (bs.mergeSort (dataLe false k)) → Q (.ref (s.heap.objs.size + 1)) s') :
    wpAny (model prog w) A (call (.builtin "sorted") [.ref l] [(Str.ofString "key", .ref fq)]) Q E s := by
  refine sorted_of_sort hl (by rw [e.length]; exact hL) (ksk_s1 _ _) (fun _ => ksk_l1 _ _) fun E' => ?_
  rw [ksk_t1]
  have ho := copyHeap_at s.heap vs
  have hc : s.heap.objs.size + 1 < (copyHeap s.heap vs).objs.size := Heap.lt_size ho
  generalize hg : copyHeap s.heap vs = g0 at ho hc ⊢
  have kc : ∀ b o, s.heap.get? b = some o → g0.get? b = some o := fun b o q => by rw [← hg]; exact copyHeap_old q
  have hvl : vs.length ≤ sizeLine := by rw [e.length]; exact hL
  obtain ⟨e1, ho1⟩ : ∃ e1, (g0.update (s.heap.objs.size + 1) (Obj.mapSeq fun _ => (#[] : Array Value))).get? (s.heap.objs.size + 1) = some (seqObj "list" #[] e1) := ⟨_, get?_update_seq ho fun _ => #[]⟩
  have hkS : ((g0.update (s.heap.objs.size + 1) (Obj.mapSeq fun _ => (#[] : Array Value))).push (seqObj "tuple" vs.toArray 0)).objs.size = g0.objs.size + 1 := by rw [size_push', Heap.size_update]
  unfold ksk_tree
  refine wpAny_bind (listItems_at (s := { s with heap := g0 }) ho rfl ?_)
  refine wpAny_bind (listUpdate_at (s := { s with heap := g0 }) ho rfl ?_ (by rw [List.size_toArray]; exact hvl) (Nat.zero_le _))
  refine wpAny_bind (seqEpoch_at ho1 rfl ?_)
  refine wpAny_bind (wpAny_newTuple ?_ (by show vs.length ≤ _; exact hvl))
  refine wpAny_bind (wpAny_newList ?_ (Nat.zero_le _))
  refine wpAny_holding ?_
  have ra : s.heap.objs.size ≤ s.heap.objs.size + 1 := Nat.le_succ _
  have rk : s.heap.objs.size ≤ ((g0.update (s.heap.objs.size + 1) (Obj.mapSeq fun _ => (#[] : Array Value))).push (seqObj "tuple" vs.toArray 0)).objs.size := by rw [hkS]; omega
  have old : ∀ b o, s.heap.get? b = some o → (((g0.update (s.heap.objs.size + 1) (Obj.mapSeq fun _ => (#[] : Array Value))).push (seqObj "tuple" vs.toArray 0)).push (seqObj "list" #[] 0)).get? b = some o := fun b o q => by
    have hlt : b < s.heap.objs.size := Heap.lt_size q
    refine Heap.get?_push_of_some _ (Heap.get?_push_of_some _ ?_)
    rw [Heap.get?_update_ne _ _ _ _ (Nat.ne_of_lt (Nat.lt_succ_of_lt hlt))]
    exact kc b o q
  refine keyJ_rest (kz := bs.map k) (J := J) (kS := ((g0.update (s.heap.objs.size + 1) (Obj.mapSeq fun _ => (#[] : Array Value))).push (seqObj "tuple" vs.toArray 0)).objs.size) (hJ _ _ ra rk)
    (hJ _ _ ra rk s _ s.toks j0 fun b o _ _ q => old b o q) (Heap.get?_push_size _ rfl) (Heap.get?_push_of_some _ (Heap.get?_push_of_some _ ho1)) (fun z => by rw [hkS] at z; exact absurd z (Nat.ne_of_gt (Nat.lt_succ_of_lt hc))) (by rw [List.length_map]; exact e.length.symm) hvl hal hk (bound_map (A := A.in1.in1) hu) ?turn ?fin
  case turn =>
    intro i v d hv hd s' kA ee j nk na
    rw [List.getElem?_map] at hd
    cases q : bs[i]? with
    | none => rw [q] at hd; simp at hd
    | some x =>
      rw [q] at hd
      have hd' : some (k x) = some d := hd
      rw [← Option.some.inj hd']
      have hz : (v, x) ∈ vs.zip bs := List.mem_of_getElem? (i := i) (by rw [List.getElem?_zip_eq_some]; exact ⟨hv, q⟩)
      exact turn _ _ ra rk v x (e.zip _ hz) (List.mem_of_getElem? q) s' _ _ j nk na
  case fin =>
    intro s' out c j na ko
    exact ⟨rfl, h s' out c j na (keyedOut_each k ko e)⟩
end
section
variable {X : Cx} {CX : CXT} {k : Nat} {f : Addr} {fd : FuncData} {x : Str} {sp : Sp}
/-- sorted(xs, key=f): f gives a text of each item and changes nothing -/
def rSortedF (K : PySem.W.Frag) (f : Addr) (sp : Sp) : List V → List V → Hp → VK → Prop := fun vs zs H Q => ∃ (a : Addr) (β : Type) (bs : List β) (fv : β → V) (key : β → Str), vs = [V.ref a] ∧ zs = [V.ref f] ∧ SqL K H a (bs.map fv) ∧
  (∀ b ∈ bs, ∀ Q' : VK, Q' (.str (key b)) H → sp [fv b] H Q' (fun _ _ _ => False)) ∧ ∀ p, H p = none → Q (.ref p) (upd H p (.lst ((bs.mergeSort (PySem.W.dataLe false fun b => .str (key b))).map fv)))
theorem cr_sortedF (F : FnOk X.prog X.w X.K X.mg X.base CX k f fd [x] sp) (hr : Room (k + 2) X.A) (hb : Binds X.K fd [x] []) (hx : ∀ outer H s e s', CX outer H s (fun _ _ _ => False) e s' → False) : CallRK X (.builtin "sorted") [Str.ofString "key"] (rSortedF X.K f sp) := by
  intro pins s σ H vs zs us ws Q I r rz h
  obtain ⟨a, β, bs, fv, key, rfl, rfl, hs, hsp, q⟩ := h
  obtain rfl := Vals.ref1 r
  obtain rfl := Vals.ref1 rz
  obtain ⟨its, rv, hl, hz⟩ := I.list hs
  have hlen : bs.length ≤ sizeLine := by rw [List.length_map] at hz; exact hz
  refine sorted_keyJ (J := fun s' => Inv X pins σ H s') (R := fun u b => RelV (fv b) u) (bs := bs) (fun b => .str (key b)) hl.isList (each_of_maps rv) (PySem.W.AllAlike.of fun _ _ => rfl) (PySem.W.Sortable.others fun v => ⟨(by intro z; cases z), fun _ z => by cases z⟩) hlen (fun b hb => ?_) ?hJ I ?turn ?fin
  · have h2 : (PyData.str (key b)).depth = 0 := by simp [PyData.depth]
    have := hr.un
    omega
  case hJ =>
    intro a' kS ra rk s' g tk J keep
    refine J.turnedL (ch := [a', kS]) (fun b o hb q => keep b o (fun z => hb (by simp [z])) (fun z => hb (by simp [z])) q) fun b hb => ?_
    have hb2 : s.heap.objs.size ≤ b := by
      rcases List.mem_cons.mp hb with rfl | hb
      · exact ra
      · rw [List.mem_singleton.mp hb]; exact rk
    exact I.fpOk hb2 (I.hok.fresh hb2)
  case turn =>
    intro a' kS ra rk v b hv hbm s' oa ok J nk na
    have e0 : Env0 X.prog X.w X.K X.mg X.base X.A.in1.in1 X.stack s' H := J.env0.in1.in1
    have hr2 : Room k X.A.in1.in1 := hr.in1.in1
    have st : ∀ c, s.heap.objs.size ≤ c → c ∉ frs X.stack := fun c hc hm => by
      obtain ⟨_, h1, h2, _⟩ := I.fpOk hc (I.hok.fresh hc)
      exact (List.mem_cons.mp (I.stkSub c hm)).elim h1 h2
    refine wpAny_call (codeAny_mono (F.run X.A.in1.in1 X.stack s' H ⟨[v], []⟩ [v] [fv b] (fun u H' => u = .str (key b) ∧ H' = H) (fun _ _ _ => False) hr2 e0 (hb s' [v] J.kIn rfl) (.cons hv .nil) (hsp b hbm _ ⟨rfl, rfl⟩)) fun r s'' hq => ?_)
    cases r with
    | error e => exact hx _ _ _ _ _ hq
    | ok fl =>
      cases fl with
      | ret u =>
        have hq' := hq
        obtain ⟨v0, H', os, bare, un, hok, ru, rfl, rfl⟩ := hq'
        have J2 : EP X pins σ (fun u H'' => u = .str (key b) ∧ H'' = H') u s'' := J.after hq
        obtain ⟨v1, H1, J2, r1, e1, e2⟩ := J2
        subst e2
        obtain ⟨t, rfl⟩ := (show ∃ t, u = Value.str (key b) t from ru)
        exact ⟨J2, un.keep _ _ nk (I.hok.fresh rk) (st _ rk) (by simp), un.keep _ _ na (I.hok.fresh ra) (st _ ra) (by simp), fun h => .str _ t⟩
      | next => exact False.elim hq
      | brk => exact False.elim hq
      | cont => exact False.elim hq
  case fin =>
    intro s' out c J na ho
    have hn : H (s.heap.objs.size + 1) = none := I.hok.fresh (Nat.le_succ _)
    have hl2 : ((bs.mergeSort (PySem.W.dataLe false fun b => .str (key b))).map fv).length ≤ sizeLine := by
      rw [List.length_map, List.length_mergeSort]; exact hlen
    refine ⟨.ref _, upd H (s.heap.objs.size + 1) (.lst ((bs.mergeSort (PySem.W.dataLe false fun b => .str (key b))).map fv)), ?_, rfl, q _ hn⟩
    exact J.take (h' := s'.heap) (t' := s'.toks) (fun b ob _ e => e) (I.fpOk (Nat.le_succ _) hn) ⟨hl2, out, c, maps_of_each ho, na⟩
end
theorem cr_sortedFK {X : Cx} {CX : CXT} {k : Nat} {f : Addr} {fd : FuncData} {x : Str} {sp : Sp} {K : PySem.W.Frag} (h : X.K = K) (F : FnOk X.prog X.w X.K X.mg X.base CX k f fd [x] sp) (hr : Room (k + 2) X.A) (hb : Binds X.K fd [x] []) (hx : ∀ outer H s e s', CX outer H s (fun _ _ _ => False) e s' → False) : CallRK X (.builtin "sorted") [Str.ofString "key"] (rSortedF K f sp) := by subst h; exact cr_sortedF F hr hb hx
theorem never0 : ∀ (outer : List Env) (H : Hp) (s : Shared) (e : Value) (s' : Shared), CX0 outer H s (fun _ _ _ => False) e s' → False := fun _ _ _ _ _ h => h
theorem g_cKw {r : List V → List V → Hp → VK → Prop} {t tk : TA} {σ : L2.St} {H : Hp} {Q : VK} (q : t σ H fun vs H1 => tk σ H1 fun zs H2 => r vs zs H2 Q) : tCKw r t tk σ H Q := q
theorem g_sortF {K : PySem.W.Frag} {f : Addr} {sp : Sp} {H : Hp} {Q : VK} {a : Addr} {β : Type} {bs : List β} {fv : β → V} (key : β → Str) (hs : SqL K H a (bs.map fv)) (hk : ∀ b ∈ bs, ∀ Q' : VK, Q' (.str (key b)) H → sp [fv b] H Q' (fun _ _ _ => False))
    (q : ∀ p, H p = none → Q (.ref p) (upd H p (.lst ((bs.mergeSort (PySem.W.dataLe false fun b => .str (key b))).map fv)))) : rSortedF K f sp [.ref a] [.ref f] H Q := ⟨a, β, bs, fv, key, rfl, rfl, hs, hk, q⟩
/-! ### comparisons of four -/
def tChain3 (r1 r2 r3 : R2) (ta tb tc td : TE) : TE := fun σ H Q => ta σ H fun x H1 => tb σ H1 fun y H2 => r1 x y H2 fun z H3 => ∃ k, z = .bl k ∧
  (if k = true then tc σ H3 fun u H4 => r2 y u H4 fun z' H5 => ∃ k', z' = .bl k' ∧ (if k' = true then td σ H5 fun w' H6 => r3 u w' H6 Q else Q (.bl false) H5) else Q (.bl false) H3)
section
variable {X : Cx} {a b c d : Expr} {ta tb tc td : TE} {pos : Pos}
theorem pt_chain3 {op1 op2 op3 : CmpOp} {r1 r2 r3 : R2} (h1 : OpR X (compareOp op1) r1) (h2 : OpR X (compareOp op2) r2) (h3 : OpR X (compareOp op3) r3) (ha : PE X a ta) (hb : PE X b tb) (hc : PE X c tc) (hd : PE X d td)
    (hm : lastMarks [op1, op2, op3] [b, c, d] = false := by with_unfolding_all rfl) : PT X (.Compare a [op1, op2, op3] [b, c, d] pos) (tTest (tChain3 r1 r2 r3 ta tb tc td)) := by
  refine ⟨fun pins s σ H Q I h => ?_⟩
  refine isTrue_chain (thn (ha.run pins s σ H _ I h) fun v s1 ⟨x, H1, I1, e1, q1⟩ => test_link (thn (hb.run pins s1 σ H1 _ I1 q1) fun u s2 ⟨y, H2, I2, e2, q2⟩ =>
    thn (h1 pins s2 σ H2 x y v u _ I2 e1 e2 q2) fun d0 s3 ⟨z, H3, I3, e3, k, e, q3⟩ => ?_)) hm
  subst e
  cases e3
  refine wpAny_truthy_bool ?_
  cases k with
  | false =>
    obtain ⟨k', e', q'⟩ := q3
    cases e'
    exact ite_ff ⟨H3, I3, q'⟩
  | true =>
    refine ite_tt (test_link (thn (hc.run pins s3 σ H3 _ I3 q3) fun w' s4 ⟨z', H4, I4, e4, q4⟩ => thn (h2 pins s4 σ H4 y z' u w' _ I4 e2 e4 q4) fun d' s5 ⟨z2, H5, I5, e5, k2, e6, q5⟩ => ?_))
    subst e6
    cases e5
    refine wpAny_truthy_bool ?_
    cases k2 with
    | false =>
      obtain ⟨k', e', q'⟩ := q5
      cases e'
      exact ite_ff ⟨H5, I5, q'⟩
    | true =>
      refine ite_tt (test_last (thn (hd.run pins s5 σ H5 _ I5 q5) fun w6 s6 ⟨z6, H6, I6, e6, q6⟩ => thn (h3 pins s6 σ H6 z' z6 w' w6 _ I6 e4 e6 q6) fun d' s7 ⟨z7, H7, I7, e7, k7, e8, q7⟩ => ?_))
      subst e8
      cases e7
      exact wpAny_truthy_bool ⟨H7, I7, q7⟩
end
theorem g_chain3 {r1 r2 r3 : R2} {ta tb tc td : TE} {σ : L2.St} {H : Hp} {Q : VK} (q : ta σ H fun x H1 => tb σ H1 fun y H2 => r1 x y H2 fun z H3 => ∃ k, z = .bl k ∧
  (if k = true then tc σ H3 fun u H4 => r2 y u H4 fun z' H5 => ∃ k', z' = .bl k' ∧ (if k' = true then td σ H5 fun w' H6 => r3 u w' H6 Q else Q (.bl false) H5) else Q (.bl false) H3)) : tChain3 r1 r2 r3 ta tb tc td σ H Q := q
/-! ### a dict of the module -/
def WDct (K : PySem.W.Frag) (w : World) (p : Addr) (kvs : List (Str × V)) : Prop := ∃ es n, K.lookup p = some ⟨.type "dict", none, .dict es n, #[]⟩ ∧ PySem.W.KeysLit w.params es.toList ∧ (p == sysModules) = false ∧ ∀ q ∈ kvs, ∃ u, PySem.W.nsIn K p q.1 = some (some u) ∧ RelV q.2 u
def rInW (K : PySem.W.Frag) (w : World) (neg : Bool) : R2 := fun x y H Q => ∃ p z kvs v, x = .str z ∧ y = .ref p ∧ WDct K w p kvs ∧ (z, v) ∈ kvs ∧ Q (.bl (!neg)) H
section
variable {X : Cx}
theorem op_ninW : OpR X (compareOp .NotIn) (rInW X.K X.w true) := by
  intro pins s σ H x y v u Q I rx ry h
  obtain ⟨p, z, kvs, v0, rfl, rfl, ⟨es, n, hl, hk, low, hv⟩, hm, q⟩ := h
  obtain ⟨t, rfl⟩ := (show ∃ t, v = Value.str z t from rx)
  obtain rfl : u = Value.ref p := ry
  obtain ⟨u0, e, _⟩ := hv _ hm
  refine wpAny_notIn_of (strKind_is X.prog X.w z t) low (PySem.W.mapOf_K (prog := X.prog) (w := X.w) I.kIn hl hk) ?_
  rw [PySem.W.find_K hl e]
  exact ⟨.bl false, H, I.tok _, rfl, q⟩
theorem op_ninWK {K : PySem.W.Frag} {w : World} (h1 : X.K = K) (h2 : X.w = w) : OpR X (compareOp .NotIn) (rInW K w true) := by subst h1 h2; exact op_ninW
theorem ix_kdictK {K : PySem.W.Frag} {w : World} (h1 : X.K = K) (h2 : X.w = w) : IxR X (rIxD K w) := by subst h1 h2; exact ix_kdict
end
section
variable {K : PySem.W.Frag} {w : World} {H : Hp} {Q : VK} {p : Addr} {z : Str} {kvs : List (Str × V)} {v : V}
theorem g_inW {neg : Bool} (h : WDct K w p kvs) (hm : (z, v) ∈ kvs) (q : Q (.bl (!neg)) H) : rInW K w neg (.str z) (.ref p) H Q := ⟨p, z, kvs, v, rfl, rfl, h, hm, q⟩
theorem g_ixW (h : WDct K w p kvs) (hm : (z, v) ∈ kvs) (q : Q v H) : rIxD K w (.ref p) (.str z) H Q := by
  obtain ⟨es, n, hl, hk, low, hv⟩ := h
  obtain ⟨u0, e, r⟩ := hv _ hm
  exact ⟨p, z, v, rfl, rfl, ⟨es, n, u0, hl, hk, e, r⟩, q⟩
end
/-! ### a dict display -/
def rDisp (p : Addr) (ps : List (V × V)) : Hp → VK → Prop := fun H2 Q => H2 p = some (.dK []) ∧ ∃ kvs : List (Key × V), ps = kvs.map (fun kv => (kV kv.1, kv.2)) ∧ kvs.length ≤ 15 ∧ Q (.ref p) (upd H2 p (.dK (mergeK [] kvs)))
section
variable {σ : L2.St} {H : Hp} {Q : VK} {p : Addr}
theorem g_disp {trs : List (TE × TE)} (q : ∀ p, H p = none → tPairs trs σ (upd H p (.dK [])) fun ps H2 => rDisp p ps H2 Q) : tDisp trs σ H Q := q
theorem g_pcons {tk tv : TE} {r : List (TE × TE)} {R : List (V × V) → Hp → Prop} (q : tk σ H fun x H1 => tv σ H1 fun y H2 => tPairs r σ H2 fun ps H3 => R ((x, y) :: ps) H3) : tPairs ((tk, tv) :: r) σ H R := q
theorem g_pnil {R : List (V × V) → Hp → Prop} (q : R [] H) : tPairs [] σ H R := q
theorem g_dispE {ps : List (V × V)} (kvs : List (Key × V)) (he : H p = some (.dK [])) (hp : ps = kvs.map (fun kv => (kV kv.1, kv.2))) (hl : kvs.length ≤ 15) (q : Q (.ref p) (upd H p (.dK (mergeK [] kvs)))) : rDisp p ps H Q := ⟨he, kvs, hp, hl, q⟩
end
/-! ### zip of tuples -/
theorem pi_zipAK {X : Cx} {K : PySem.W.Frag} {e e2 : Expr} {ta : TA} {p pos tpos : Pos} {elts : List Expr} {kk : Nat} (h : X.K = K) (hg : Gl X "zip") (hm : X.mg "zip" = none) (ha : PA X [e, e2] ta)
    (hs : starEach [e, e2] X.env = (false, eval e X.env) :: starEach [e2] X.env := by rfl) (hpl : (backTo pos (starEach [e2] X.env)).any (·.1) = false := by rfl) :
    PI X (.Tuple elts kk tpos) (.Call (.Name "zip" p) [e, e2] [] pos) (RZ.iZipA K ta) := by subst h; exact RZ.pi_zipA hg hm ha hs hpl
theorem g_zip {K : PySem.W.Frag} {ta : TA} {σ : L2.St} {H : Hp} {R : It → Hp → Prop} (q : ta σ H fun vs H1 => ∃ a b xs ys, vs = [.ref a, .ref b] ∧ ((SqL K H1 a xs ∧ SqL K H1 b ys ∧ R (Itz K a b) H1) ∨ (SqT K H1 a xs ∧ SqT K H1 b ys ∧ R (RZ.ItzT K a b) H1))) : RZ.iZipA K ta σ H R := q
theorem l_zipT {K : PySem.W.Frag} {a b : Addr} {xs ys : List V} {g : TG} {tb : TS} {D : Ends} {σ : L2.St} {H : Hp} (hl : xs.length = ys.length) (Pv : Nat → L2.St → Hp → Prop) (h0 : Pv 0 σ H) (hq : ∀ i σ H, Pv i σ H → SqT K H a xs ∧ SqT K H b ys)
    (hs : ∀ (i : Nat) (x y : V) (T : Addr) (σ : L2.St) (H : Hp), xs[i]? = some x → ys[i]? = some y → Pv i σ H → H T = none → g (.ref T) σ (upd H T (.tup [x, y])) fun σ2 H2 => tb { D with nx := Pv (i + 1), ct := Pv (i + 1), bk := D.nx } σ2 H2) (hd : ∀ σ H, Pv xs.length σ H → D.nx σ H) :
    LoopOk (RZ.ItzT K a b) g tb D σ H := RZ.for_zipT hl Pv h0 hq hs hd
/-! ### limits of the six words -/
abbrev Shr : Type := Str × Int × Int
inductive Nu where
  | flat (ns : List Int)
  | pool (m : Int) (sh : List Shr)
structure Lm where
  nm : Str
  wd : Str
  gs : List Str
  nu : Nu
def million : Int := 1000000
def strLt (x y : Str) : Prop := x.cps.toList < y.cps.toList
def Asc (xs : List Str) : Prop := xs.Pairwise strLt
def sizesL : List (Str × V) := [("window", .int 2), ("span", .int 2), ("bucket", .int 2), ("gap", .int 1), ("held", .int 1), ("pool", .int 2)]
/-- the numbers of a word other than pool -/
def FlatOk (wd : Str) (ns : List Int) : Prop := ((wd = "window" ∨ wd = "span" ∨ wd = "bucket") ∧ ∃ a b, ns = [a, b] ∧ 0 ≤ a ∧ a ≤ million ∧ 1 ≤ b ∧ b ≤ million) ∨
  (wd = "gap" ∧ ∃ b, ns = [b] ∧ 1 ≤ b ∧ b ≤ million) ∨ (wd = "held" ∧ ∃ a, ns = [a] ∧ 0 ≤ a ∧ a ≤ million)
def Nu.Ok (wd : Str) (gs : List Str) : Nu → Prop
  | .flat ns => FlatOk wd ns ∧ gs.length ≤ 8 ∧ Asc gs
  | .pool m sh => wd = "pool" ∧ gs = [] ∧ 1 ≤ sh.length ∧ sh.length ≤ 8 ∧ Asc (sh.map (·.1)) ∧ (∀ s ∈ sh, isName s.1 = true ∧ 0 ≤ s.2.1 ∧ s.2.1 ≤ s.2.2 ∧ s.2.2 ≤ million) ∧ 0 ≤ m ∧ m ≤ million ∧ (sh.map (·.2.1)).sum ≤ m
def Lm.Ok (l : Lm) : Prop := isName l.nm = true ∧ (∀ g ∈ l.gs, isName g = true) ∧ l.nu.Ok l.wd l.gs
/-- how it stands in the heap -/
def NuAt (K : PySem.W.Frag) (H : Hp) (p : Addr) : Nu → Prop
  | .flat ns => SqT K H p (ns.map V.int)
  | .pool m sh => ∃ (q : Addr) (xs : List (Addr × Shr)), SqT K H p [.int m, .ref q] ∧ SqT K H q (xs.map fun x => V.ref x.1) ∧ xs.map (·.2) = sh ∧ ∀ x ∈ xs, SqT K H x.1 [.str x.2.1, .int x.2.2.1, .int x.2.2.2]
def LmAt (K : PySem.W.Frag) (H : Hp) (p : Addr) (l : Lm) : Prop := ∃ g n : Addr, SqT K H p [.str l.nm, .str l.wd, .ref g, .ref n] ∧ SqT K H g (l.gs.map V.str) ∧ NuAt K H n l.nu
section
variable {K : PySem.W.Frag} {H H' : Hp} {p : Addr} {l : Lm}
theorem NuAt.mono {n : Nu} (h : NuAt K H p n) (e : Ex H H') : NuAt K H' p n := by
  cases n with
  | flat ns => exact ex_sqT e h
  | pool m sh =>
    obtain ⟨q, xs, h1, h2, h3, h4⟩ := h
    exact ⟨q, xs, ex_sqT e h1, ex_sqT e h2, h3, fun x hx => ex_sqT e (h4 x hx)⟩
theorem LmAt.mono (h : LmAt K H p l) (e : Ex H H') : LmAt K H' p l := by
  obtain ⟨g, n, h1, h2, h3⟩ := h
  exact ⟨g, n, ex_sqT e h1, ex_sqT e h2, h3.mono e⟩
end
/-- the limit looks at the group -/
def seesL (l : Lm) (g : Str) : Bool := match l.nu with
  | .flat _ => decide (l.gs.length = 0) || decide (g ∈ l.gs)
  | .pool _ sh => decide (g ∈ sh.map (·.1))
/-- as data -/
def shrD (s : Shr) : PyData := .tuple [.str s.1, .int s.2.1, .int s.2.2]
def Nu.data : Nu → PyData
  | .flat ns => .tuple (ns.map PyData.int)
  | .pool m sh => .tuple [.int m, .tuple (sh.map shrD)]
def Lm.data (l : Lm) : PyData := .tuple [.str l.nm, .str l.wd, .tuple (l.gs.map PyData.str), l.nu.data]
section
variable {K : PySem.W.Frag} {H H' : Hp} {p : Addr} {l : Lm}
theorem dpAll_map {α : Type} {f : α → V} {d : α → PyData} : ∀ {xs : List α}, (∀ x ∈ xs, Dp K H (f x) (d x)) → DpAll K H (xs.map f) (xs.map d)
  | [], _ => .nil
  | x :: xs, h => .cons (h x List.mem_cons_self) (dpAll_map fun y hy => h y (List.mem_cons_of_mem _ hy))
theorem NuAt.dp {n : Nu} (h : NuAt K H p n) : Dp K H (.ref p) n.data := by
  cases n with
  | flat ns => exact .tup h (dpAll_map fun x _ => .int x)
  | pool m sh =>
    obtain ⟨q, xs, h1, h2, h3, h4⟩ := h
    refine .tup h1 (.cons (.int m) (.cons ?_ .nil))
    have e : sh.map shrD = xs.map fun x => shrD x.2 := by rw [← h3, List.map_map]; rfl
    rw [e]
    exact .tup h2 (dpAll_map fun x hx => .tup (h4 x hx) (.cons (.str _) (.cons (.int _) (.cons (.int _) .nil))))
theorem LmAt.dp (h : LmAt K H p l) : Dp K H (.ref p) l.data := by
  obtain ⟨g, n, h1, h2, h3⟩ := h
  exact .tup h1 (.cons (.str _) (.cons (.str _) (.cons (.tup h2 (dpAll_map fun x _ => .str x)) (.cons h3.dp .nil))))
end
/-- limits in a list -/
def LmsAt (K : PySem.W.Frag) (H : Hp) (xs : List (Addr × Lm)) : Prop := ∀ x ∈ xs, LmAt K H x.1 x.2
theorem LmsAt.mono {K : PySem.W.Frag} {H H' : Hp} {xs : List (Addr × Lm)} (h : LmsAt K H xs) (e : Ex H H') : LmsAt K H' xs := fun x hx => (h x hx).mono e
abbrev lV (x : Addr × Lm) : V := .ref x.1
abbrev lN (x : Addr × Lm) : Str := x.2.nm
/-- the limits in the order of their names -/
def sortN (xs : List (Addr × Lm)) : List (Addr × Lm) := xs.mergeSort (PySem.W.dataLe false fun x => .str x.2.nm)
theorem sortN_perm (xs : List (Addr × Lm)) : (sortN xs).Perm xs := List.mergeSort_perm _ _
theorem sortN_sorted (xs : List (Addr × Lm)) : (sortN xs).Pairwise fun x y => x.2.nm.cps.toList ≤ y.2.nm.cps.toList := by
  have h := PySem.W.sort_pairwise (le := PySem.W.dataLe false fun x : Addr × Lm => .str x.2.nm) (PySem.W.sortLe_total _ false _) xs
  refine h.imp fun {x y} h => ?_
  rw [PySem.W.dataLe_str] at h
  exact of_decide_eq_true h
/-- texts in order -/
def sortS (xs : List Str) : List Str := xs.mergeSort (PySem.W.dataLe false fun x => .str x)
theorem sortS_perm (xs : List Str) : (sortS xs).Perm xs := List.mergeSort_perm _ _
theorem sortS_sorted (xs : List Str) : (sortS xs).Pairwise fun x y => x.cps.toList ≤ y.cps.toList := by
  have h := PySem.W.sort_pairwise (le := PySem.W.dataLe false fun x : Str => .str x) (PySem.W.sortLe_total _ false _) xs
  refine h.imp fun {x y} h => ?_
  rw [PySem.W.dataLe_str] at h
  exact of_decide_eq_true h
theorem str_ext {x y : Str} (h : x.cps.toList = y.cps.toList) : x = y := by
  cases x
  cases y
  simp only [Str.mk.injEq]
  exact Array.toList_inj.mp h
theorem sorted_eq : ∀ {xs ys : List Str}, xs.Perm ys → xs.Pairwise (fun x y => x.cps.toList ≤ y.cps.toList) → ys.Pairwise (fun x y => x.cps.toList ≤ y.cps.toList) → xs = ys := by
  intro xs ys hp h1 h2
  exact hp.eq_of_pairwise (le := fun x y : Str => x.cps.toList ≤ y.cps.toList) (fun a b _ _ h h' => str_ext (List.le_antisymm h h')) h1 h2
theorem asc_of {ys : List Str} (hn : ys.Nodup) (h : ys.Pairwise fun x y => x.cps.toList ≤ y.cps.toList) : Asc ys := by
  have h2 := List.Pairwise.and hn h
  refine h2.imp fun {x y} ⟨h1, h3⟩ => ?_
  unfold strLt
  exact Std.lt_of_le_of_ne h3 fun e => h1 (str_ext e)
/-! rules -/
def iSeq (K : PySem.W.Frag) (te : TE) : TI := fun σ H R => te σ H fun x H1 => rIL K R x H1 ∨ rIT K R x H1
def rIxQ (K : PySem.W.Frag) : R2 := fun x y H Q => rIxL K x y H Q ∨ rIxT K x y H Q
section
variable {X : Cx} {K : PySem.W.Frag}
theorem pi_seqK {tg l : Expr} {tl : TE} (h : X.K = K) (hl : PE X l tl) : PI X tg l (iSeq K tl) := by
  subst h
  refine ⟨fun pins s σ H R I q => ?_⟩
  refine thn (hl.run pins s σ H _ I q) fun v s1 ⟨x, H1, I1, r, q1⟩ => ?_
  rcases q1 with ⟨a, e, ⟨xs, hq⟩, q⟩ | ⟨a, e, ⟨xs, hq⟩, q⟩
  · subst e
    cases r
    obtain ⟨its, rv, p, hz⟩ := I1.list hq
    refine wpAny_pyIter_list p.isList ?_
    refine ⟨s1.heap.objs.size, [s1.heap.objs.size], _, _, H1, rfl, I1.kept (t' := s1.toks) fun b o e => Heap.get?_push_of_some _ e, turn_list a _, ⟨_, Heap.get?_push_size _ rfl, rfl, rfl⟩, fun b hb => ?_, q⟩
    have e : b = s1.heap.objs.size := by simpa using hb
    subst e
    exact I1.fpOk (Nat.le_refl _) (I1.hok.fresh (Nat.le_refl _))
  · subst e
    cases r
    obtain ⟨its, rv, p, hz⟩ := I1.tuple hq
    refine wpAny_pyIter_tuple (show s1.heap.IsTuple a its.toArray from p) ?_
    refine ⟨s1.heap.objs.size, [s1.heap.objs.size], _, _, H1, rfl, I1.kept (t' := s1.toks) fun b o e => Heap.get?_push_of_some _ e, turn_tuple a _, ⟨_, Heap.get?_push_size _ rfl, rfl, rfl⟩, fun b hb => ?_, q⟩
    have e : b = s1.heap.objs.size := by simpa using hb
    subst e
    exact I1.fpOk (Nat.le_refl _) (I1.hok.fresh (Nat.le_refl _))
theorem ix_seqK (h : X.K = K) : IxR X (rIxQ K) := by
  subst h
  intro value slice pins s σ H x y v u Q I rx ry q hs
  rcases q with q | q
  · exact ix_list value slice pins s σ H x y v u Q I rx ry q hs
  · exact ix_tup value slice pins s σ H x y v u Q I rx ry q hs
end
section
variable {K : PySem.W.Frag} {H : Hp} {Q : VK} {σ : L2.St} {p : Addr}
/-- a list or a tuple -/
def SqQ (K : PySem.W.Frag) (H : Hp) (p : Addr) (xs : List V) : Prop := SqL K H p xs ∨ SqT K H p xs
theorem SqQ.mono {H' : Hp} {xs : List V} (h : SqQ K H p xs) (e : Ex H H') : SqQ K H' p xs := h.imp (fun z => ex_sqL e z) fun z => ex_sqT e z
theorem g_lenQ {xs : List V} (h : SqQ K H p xs) (q : Q (.int xs.length) H) : rLen K [.ref p] H Q := ⟨p, xs, rfl, h, q⟩
theorem g_ixQ {xs : List V} {i : Int} {v : V} (h : SqQ K H p xs) (ha : atI xs i = some v) (q : Q v H) : rIxQ K (.ref p) (.int i) H Q := h.imp (fun z => g_ixL z ha q) fun z => g_ixT z ha q
theorem g_iSeq {te : TE} {R : It → Hp → Prop} (q : te σ H fun x H1 => rIL K R x H1 ∨ rIT K R x H1) : iSeq K te σ H R := q
theorem g_atQ {R : It → Hp → Prop} {xs : List V} (h : SqQ K H p xs) (q : SqL K H p xs → R (Itl K p) H) (q2 : SqT K H p xs → R (Itt K p) H) : rIL K R (.ref p) H ∨ rIT K R (.ref p) H := h.imp (fun z => g_atL z (q z)) fun z => g_atT z (q2 z)
theorem at_strs2 {zs : List Str} {i : Nat} (h : i < zs.length) : atI (zs.map V.str) (i : Int) = some (.str (zs.getD i Str.empty)) := by
  refine atI_nat ?_
  rw [List.getElem?_map, List.getElem?_eq_getElem h, List.getD_eq_getElem?_getD, List.getElem?_eq_getElem h]
  rfl
end
def ascB (zs : List Str) : Bool := (List.range (zs.length - 1)).all fun i => decide ((zs.getD i Str.empty).cps.toList < (zs.getD (i + 1) Str.empty).cps.toList)
theorem ascB_of {zs : List Str} (h : Asc zs) : ascB zs = true := by
  unfold ascB
  rw [List.all_eq_true]
  intro i hi
  have hi2 : i + 1 < zs.length := by have := List.mem_range.mp hi; omega
  refine decide_eq_true ?_
  rw [List.getD_eq_getElem?_getD, List.getD_eq_getElem?_getD, List.getElem?_eq_getElem hi2, List.getElem?_eq_getElem (show i < zs.length by omega)]
  exact List.pairwise_iff_getElem.mp h i (i + 1) (by omega) hi2 (by omega)
theorem isName_len {z : Str} (h : isName z = true) : z.length ≤ 12 := by
  unfold isName at h
  simp only [Bool.and_eq_true, decide_eq_true_eq] at h
  omega
theorem isName_ok {z : Str} (h : isName z = true) : PyData.strOk z = true := part_ok (isName_part h)
/-! comprehensions of new things -/
theorem NuAt.tr {K : PySem.W.Frag} {H H' : Hp} {p : Addr} {n : Nu} (h : NuAt K H p n) (t : ∀ q vs, SqT K H q vs → SqT K H' q vs) : NuAt K H' p n := by
  cases n with
  | flat ns => exact t _ _ h
  | pool m sh =>
    obtain ⟨q, xs, h1, h2, h3, h4⟩ := h
    exact ⟨q, xs, t _ _ h1, t _ _ h2, h3, fun x hx => t _ _ (h4 x hx)⟩
theorem LmAt.tr {K : PySem.W.Frag} {H H' : Hp} {p : Addr} {l : Lm} (h : LmAt K H p l) (t : ∀ q vs, SqT K H q vs → SqT K H' q vs) : LmAt K H' p l := by
  obtain ⟨g, n, h1, h2, h3⟩ := h
  exact ⟨g, n, t _ _ h1, t _ _ h2, h3.tr t⟩
theorem lc_tupA {K : PySem.W.Frag} {H : Hp} {Q : VK} {σ : L2.St} {g : TG} {te : TE} {vs : List Nat} {α : Type} {a : Addr} {xs : List α} (enc : α → V) (f : α → V) (d : α) (hS : SqT K H a (xs.map enc)) (hn : xs.length ≤ 1000000)
    (hs : ∀ x ∈ xs, ∀ H1, Ex H H1 → ∀ R : VK, (∀ H3, Ex H1 H3 → R (f x) H3) → g (enc x) (wipe σ vs) H1 fun σ2 H3 => wipe σ2 vs = wipe σ vs ∧ te σ2 H3 R)
    (hq : ∀ p H', H p = none → Ex H H' → H' p = some (.lst (xs.map f)) → Q (.ref p) H') : LcOk (Itt K a) g tYes te vs Q σ H := by
  refine lc_pure (walk_tup (xs := xs.map enc)) (fun i => f (xs.getD i d)) (fits_lt (by rw [List.length_map]; exact hn)) (fun H' e => ex_sqT e hS) (fun i x H1 H2 hi hE hY R hR => ?_) (fun i H1 x H2 hY => ?_) (fun p H' hp hE hL => ?_)
  · obtain ⟨rfl, hx⟩ := hY
    rw [List.getElem?_map] at hx
    cases e : xs[i]? with
    | none => rw [e] at hx; cases hx
    | some y =>
      rw [e] at hx
      have ex : enc y = x := Option.some.inj hx
      subst ex
      have e2 : xs.getD i d = y := by rw [List.getD_eq_getElem?_getD, e]; rfl
      exact hs y (List.mem_of_getElem? e) H2 hE R fun H3 h3 => by
        have := hR H3 h3
        rw [e2] at this
        exact this
  · obtain ⟨rfl, _⟩ := hY
    exact Evl.Ex.refl _
  · refine hq p H' hp hE ?_
    rw [hL, List.length_map]
    congr 2
    refine List.ext_getElem? fun j => ?_
    rw [List.getElem?_map, List.getElem?_map]
    by_cases hj : j < xs.length
    · rw [List.getElem?_range hj, List.getElem?_eq_getElem hj]
      show some (f (xs.getD j d)) = some (f xs[j])
      rw [List.getD_eq_getElem?_getD, List.getElem?_eq_getElem hj]
      rfl
    · rw [List.getElem?_eq_none (by rw [List.length_range]; omega), List.getElem?_eq_none (by omega)]
      rfl
theorem g_catTE {K : PySem.W.Frag} {H : Hp} {Q : VK} {p r : Addr} {x : V} {xs ys : List V} (h : SqT K H p (x :: xs)) (h' : SqT K H r ys) (hz : (x :: xs).length + ys.length ≤ sizeLine) (q : ∀ p' H', Ex H H' → SqT K H' p' ((x :: xs) ++ ys) → Q (.ref p') H') : rCatT K (.ref p) (.ref r) H Q :=
  ⟨p, r, _, _, rfl, rfl, h, h', (fun z => nomatch z), hz, (fun z => q _ _ (Evl.Ex.refl _) (by rw [z, List.append_nil]; exact h)), fun _ p hp => q _ _ (Evl.Ex.new hp) (.inl (.inl upd_same))⟩
def rIsBl (neg : Bool) : R2 := fun x y H Q => ∃ b c : Bool, x = .bl b ∧ y = .bl c ∧ Q (.bl (if neg then !decide (b = c) else decide (b = c))) H
theorem bool_beq (a b : Bool) : (Value.bool a == Value.bool b) = decide (a = b) := by
  by_cases e : a = b
  · subst e
    exact (beq_self_eq_true (Value.bool a)).trans (decide_eq_true (p := a = a) rfl).symm
  · exact (beq_eq_false_iff_ne.mpr fun z => e (Value.bool.inj z)).trans (decide_eq_false e).symm
theorem op_isnotB {X : Cx} : OpR X (compareOp .IsNot) (rIsBl true) := by
  intro pins s σ H x y v u Q I rx ry h
  obtain ⟨a, b, rfl, rfl, q⟩ := h
  cases (show v = Value.bool a from rx)
  cases (show u = Value.bool b from ry)
  exact wpAny_isNot_plain rfl (fin_bl I q (by rw [bool_beq]; rfl))
theorem g_isBl {H : Hp} {Q : VK} {b c neg : Bool} (q : Q (.bl (if neg then !decide (b = c) else decide (b = c))) H) : rIsBl neg (.bl b) (.bl c) H Q := ⟨b, c, rfl, rfl, q⟩
/-! data that can be compared -/
def LayD (n : Nat) (d : PyData) : Prop := d.canLay0 = true ∧ d.depth ≤ n
theorem layAll {n : Nat} : ∀ {ds : List PyData}, (∀ d ∈ ds, LayD n d) → PyData.canLayAll0 ds = true ∧ PyData.depthAll ds ≤ n
  | [], _ => ⟨by simp [PyData.canLayAll0], by simp [PyData.depthAll]⟩
  | d :: ds, h => by
    obtain ⟨h1, h2⟩ := h d List.mem_cons_self
    obtain ⟨h3, h4⟩ := layAll (n := n) (ds := ds) fun x hx => h x (List.mem_cons_of_mem _ hx)
    refine ⟨by simp [PyData.canLayAll0, h1, h3], ?_⟩
    show max d.depth (PyData.depthAll ds) ≤ n
    omega
theorem lay_tuple {n : Nat} {ds : List PyData} (h : ∀ d ∈ ds, LayD n d) : LayD (n + 1) (.tuple ds) := by
  obtain ⟨h1, h2⟩ := layAll h
  exact ⟨by simp [PyData.canLay0, h1], by show PyData.depthAll ds + 1 ≤ _; omega⟩
theorem lay_int {n : Nat} (i : Int) : LayD n (.int i) := ⟨rfl, Nat.zero_le _⟩
theorem lay_str {n : Nat} {z : Str} (h : PyData.strOk z = true) : LayD n (.str z) := ⟨h, Nat.zero_le _⟩
theorem LayD.shaped {n : Nat} {d : PyData} (h : LayD n d) (hn : n ≤ 64) : SeqAt.shaped d = true := by
  unfold SeqAt.shaped
  rw [h.1, decide_eq_true (show d.depth ≤ 64 by have := h.2; omega)]
  rfl
theorem LayD.le {n m : Nat} {d : PyData} (h : LayD n d) (hn : n ≤ m) : LayD m d := ⟨h.1, Nat.le_trans h.2 hn⟩
theorem names_eq {rs ls : List (Addr × Lm)} (p : Addr × Lm → Bool) (h : rs.Perm ls) : ((sortN rs).filter p).map lN = sortS ((ls.filter p).map lN) := by
  refine sorted_eq ((((sortN_perm rs).trans h).filter p).map lN |>.trans (sortS_perm _).symm) ?_ (sortS_sorted _)
  rw [List.pairwise_map]
  exact (sortN_sorted rs).filter p
theorem ExP.toEx {m : Addr} {H H' H2 : Hp} (e : ExP m H' H2) (x : Ex H H') (hm : H m = none) : Ex H H2 := fun b o h => e b o (fun z => by rw [z, hm] at h; cases h) (x b o h)
/-! ### sorted of pairs (text, any object), the texts different -/
def IsSp (h : Heap) (v : Value) (x : Str) : Prop := ∃ a o t c n, v = .ref a ∧ h.get? a = some o ∧ o.cls = .type "tuple" ∧ o.data = .seq #[.str x t, .ref c] n
theorem IsSp.keeps {h h' : Heap} {v : Value} {x : Str} (p : IsSp h v x) (k : ∀ b o, h.get? b = some o → o.cls = .type "tuple" → h'.get? b = some o) : IsSp h' v x := by
  obtain ⟨a, o, t, u, n, e, ho, hc, hd⟩ := p
  exact ⟨a, o, t, u, n, e, k _ _ ho hc, hc, hd⟩
theorem inj_of_nodup {β : Type} {nm : β → Str} : ∀ {bs : List β}, (bs.map nm).Nodup → ∀ b ∈ bs, ∀ b' ∈ bs, nm b = nm b' → b = b'
  | [], _, b, hb, _, _, _ => by cases hb
  | x :: bs, h, b, hb, b', hb', e => by
    rw [List.map_cons, List.nodup_cons] at h
    rcases List.mem_cons.mp hb with rfl | hb2
    · rcases List.mem_cons.mp hb' with rfl | hb2'
      · rfl
      · exact absurd (show nm b ∈ bs.map nm from List.mem_map.mpr ⟨b', hb2', e.symm⟩) h.1
    · rcases List.mem_cons.mp hb' with rfl | hb2'
      · exact absurd (show nm b' ∈ bs.map nm from List.mem_map.mpr ⟨b, hb2, e⟩) h.1
      · exact inj_of_nodup h.2 b hb2 b' hb2' e
/-! ### written limits -/
/-! rules -/
section
variable {K : PySem.W.Frag} {H : Hp} {Q : VK} {σ : L2.St} {p : Addr}
def rProp (C : Addr) (sp : Sp) (dvs : List V) (E : XK) (Q : VK) : VK := fun x H1 => ∃ a dx fs, x = .ref a ∧ H1 a = some (.ins C dx fs) ∧ sp (.ref a :: dvs) H1 Q E
theorem g_prop {C : Addr} {sp : Sp} {dvs : List V} {E : XK} {ta : TE} (q : ta σ H (rProp C sp dvs E Q)) : tProp C sp dvs E ta σ H Q := q
theorem g_prop1 {C : Addr} {sp : Sp} {dvs : List V} {E : XK} {dx : Addr} {fs : List (Str × V)} (h : H p = some (.ins C dx fs)) (q : sp (.ref p :: dvs) H Q E) : rProp C sp dvs E Q (.ref p) H := ⟨p, dx, fs, rfl, h, q⟩
end
/-! ### classes that are made, and methods, that may raise, within a try -/
def tMakeS (C : Addr) (sp : Sp) (E : L2.St → XK) (t : TA) : TE := fun σ H Q => t σ H fun vs H1 => ∀ x dx, H1 x = none → H1 dx = none → dx ≠ x → sp (.ref x :: vs) (upd (upd H1 dx (.own x)) x (.ins C dx [])) (fun v H2 => v = .non ∧ Q (.ref x) H2) (E σ)
def tMethS (C : Addr) (m : Str) (sp : Sp) (E : L2.St → XK) (ta : TE) (t : TA) : TE := fun σ H Q => ta σ H fun x H1 => ∃ a dx fs, x = .ref a ∧ H1 a = some (.ins C dx fs) ∧ fs.lookup m = none ∧ t σ H1 fun vs H2 => sp (x :: vs) H2 Q (E σ)
section
variable {X : Cx} {CX : CXT} {k : Nat} {f C : Addr} {fd : FuncData} {ps : List Str} {sp : Sp} {E : L2.St → XK} {x m : Str} {p pos apos : Pos} {e o : Expr} {es : List Expr} {ta : TE} {t : TA}
theorem pe_methT {pl : Sem Bool} (he : PE X o ta) (c : Cls X.K C) (hm : Meth X.K C m f) (F : FnOk X.prog X.w X.K X.mg X.base CX k f fd ps sp) (hr : Room k X.A) (hb : Binds X.K fd ps []) (hx : ∀ σ, PassesAt CX X σ (E σ)) (ha : PA X (e :: es) t)
    (hst : starEach (e :: es) X.env = (false, eval e X.env) :: starEach es X.env := by rfl) (hpl : (backTo pos (starEach es X.env)).any (·.1) = false := by rfl)
    (ht : eval (.Call (.Attribute o m apos) (e :: es) [] pos) X.env = (do
      let ov ← eval o X.env
      standAt apos.atName
      let (f, first) ← holding [ov] (getMethod ov m pl)
      callWith pos f first (backTo pos (starEach (e :: es) X.env)) (backToKw pos (keywordEach [] X.env))) := by rfl) :
    PE X (.Call (.Attribute o m apos) (e :: es) [] pos) (tMethS C m sp E ta t) := by
  refine ⟨fun pins s σ H Q I h => ?_⟩
  refine PySem.W.methodCall_KW (pl := pl) (thn (he.run pins s σ H _ I h) fun u s1 ⟨x, H1, I1, rx, a, dx, fs, ex, ea, l, q⟩ => ?_) ht
  subst ex
  obtain rfl : u = Value.ref a := rx
  refine getmeth_ok I1 ea c hm l ?_
  refine PySem.W.callWith_K (first := [.ref a]) (h₀ := X.base) I.ok.mod.kin hm.kp (thn (ha.run pos pins s1 σ H1 _ I1 q) fun us s2 ⟨vs, H2, I2, r, q2⟩ => ⟨I2.kIn, ?_⟩) hst hpl
  exact run_fnS (us := .ref a :: us) (vs := .ref a :: vs) F hr hb (hx σ) I2 (.cons rfl r) q2
end
section
variable {σ : L2.St} {H : Hp} {Q : VK} {p : Addr}
theorem g_makeS {C : Addr} {sp : Sp} {E : L2.St → XK} {t : TA} (q : t σ H fun vs H1 => ∀ x dx, H1 x = none → H1 dx = none → dx ≠ x → sp (.ref x :: vs) (upd (upd H1 dx (.own x)) x (.ins C dx [])) (fun v H2 => v = .non ∧ Q (.ref x) H2) (E σ)) : tMakeS C sp E t σ H Q := q
def rMethS (C : Addr) (m : Str) (sp : Sp) (E : L2.St → XK) (t : TA) (σ : L2.St) (Q : VK) : VK := fun x H1 => ∃ a dx fs, x = .ref a ∧ H1 a = some (.ins C dx fs) ∧ fs.lookup m = none ∧ t σ H1 fun vs H2 => sp (x :: vs) H2 Q (E σ)
theorem g_methS {C : Addr} {m : Str} {sp : Sp} {E : L2.St → XK} {ta : TE} {t : TA} (q : ta σ H (rMethS C m sp E t σ Q)) : tMethS C m sp E ta t σ H Q := q
theorem g_methS1 {C : Addr} {m : Str} {sp : Sp} {E : L2.St → XK} {t : TA} {dx : Addr} {fs : List (Str × V)} (h : H p = some (.ins C dx fs)) (l : fs.lookup m = none) (q : t σ H fun vs H2 => sp (.ref p :: vs) H2 Q (E σ)) : rMethS C m sp E t σ Q (.ref p) H := ⟨p, dx, fs, rfl, h, l, q⟩
end
/-! ### data that are equal -/
/-! ### limits of any parts -/
abbrev Rsh := Str × List Int
/-- a part of the numbers: an integer, or a tuple of tuples -/
inductive Ri where
  | i (n : Int)
  | t (ss : List Rsh)
structure Raw where
  nm : Str
  wd : Str
  gs : List Str
  ns : List Ri
def rshV (s : Rsh) : List V := V.str s.1 :: s.2.map V.int
def RiAt (K : PySem.W.Frag) (H : Hp) (x : V) : Ri → Prop
  | .i n => x = .int n
  | .t ss => ∃ (q : Addr) (xs : List (Addr × Rsh)), x = .ref q ∧ SqT K H q (xs.map fun y => V.ref y.1) ∧ xs.map (·.2) = ss ∧ ∀ y ∈ xs, SqT K H y.1 (rshV y.2)
def RisAt (K : PySem.W.Frag) (H : Hp) (xs : List (V × Ri)) : Prop := ∀ x ∈ xs, RiAt K H x.1 x.2
def RawAt (K : PySem.W.Frag) (H : Hp) (p : Addr) (r : Raw) : Prop := ∃ (g n : Addr) (xs : List (V × Ri)), SqT K H p [.str r.nm, .str r.wd, .ref g, .ref n] ∧ SqT K H g (r.gs.map V.str) ∧ SqT K H n (xs.map (·.1)) ∧ xs.map (·.2) = r.ns ∧ RisAt K H xs
section
variable {K : PySem.W.Frag} {H H' : Hp} {p : Addr}
theorem RiAt.mono {x : V} {r : Ri} (h : RiAt K H x r) (e : Ex H H') : RiAt K H' x r := by
  cases r with
  | i n => exact h
  | t ss =>
    obtain ⟨q, xs, h1, h2, h3, h4⟩ := h
    exact ⟨q, xs, h1, ex_sqT e h2, h3, fun y hy => ex_sqT e (h4 y hy)⟩
theorem RisAt.mono {xs : List (V × Ri)} (h : RisAt K H xs) (e : Ex H H') : RisAt K H' xs := fun x hx => (h x hx).mono e
theorem RawAt.mono {r : Raw} (h : RawAt K H p r) (e : Ex H H') : RawAt K H' p r := by
  obtain ⟨g, n, xs, h1, h2, h3, h4, h5⟩ := h
  exact ⟨g, n, xs, ex_sqT e h1, ex_sqT e h2, ex_sqT e h3, h4, h5.mono e⟩
theorem RiAt.tr {x : V} {r : Ri} (h : RiAt K H x r) (e : ∀ q vs, SqT K H q vs → SqT K H' q vs) : RiAt K H' x r := by
  cases r with
  | i n => exact h
  | t ss =>
    obtain ⟨q, xs, h1, h2, h3, h4⟩ := h
    exact ⟨q, xs, h1, e _ _ h2, h3, fun y hy => e _ _ (h4 y hy)⟩
theorem RawAt.tr {r : Raw} (h : RawAt K H p r) (e : ∀ q vs, SqT K H q vs → SqT K H' q vs) : RawAt K H' p r := by
  obtain ⟨g, n, xs, h1, h2, h3, h4, h5⟩ := h
  exact ⟨g, n, xs, e _ _ h1, e _ _ h2, e _ _ h3, h4, fun x hx => (h5 x hx).tr e⟩
end
/-! what is asked of them -/
/-- all other keys are not in the dict of the module -/
def keysE (es : List DictEntry) : List Str := es.filterMap fun e => match e.key with
  | .str x _ => some x
  | _ => none
/-! plain limits -/
/-! ### isinstance of a caught error without a dict, of any class -/
/-! ### tuples put together, cut -/
theorem op_catAK {X : Cx} {K : PySem.W.Frag} (h : X.K = K) : OpR X (binaryOp .Add) (rCatA K) := by subst h; exact op_catA
theorem g_catA {K : PySem.W.Frag} {H : Hp} {Q : VK} {p r : Addr} {xs ys : List V} (h : SqT K H p xs) (h' : SqT K H r ys) (hz : xs.length + ys.length ≤ 100000) (q : ∀ p' H', Ex H H' → SqT K H' p' (xs ++ ys) → Q (.ref p') H') : rCatA K (.ref p) (.ref r) H Q :=
  ⟨p, r, _, _, rfl, rfl, h, h', Nat.le_trans hz (by rw [sizeLine_eq]; decide), (fun z => q _ _ (Evl.Ex.refl _) (by rw [z]; exact h')), (fun _ z => q _ _ (Evl.Ex.refl _) (by rw [z, List.append_nil]; exact h)), fun _ _ p hp => q _ _ (Evl.Ex.new hp) (.inl (.inl upd_same))⟩
/-! ### deeds, and what a limit sees of them: plain law -/
def dvs : Ent → List V
  | .ask k g c m => [.str "let", .str k, .str g, .int c, .int m]
  | .rel k m => [.str "release", .str k, .int m]
abbrev Pt : Type := Int × Int
abbrev Sgt : Type := List Pt × List E3
def GoodD (seen : List Str) : List Ent → Prop
  | [] => True
  | e :: r => (e.isAsk = true → e.key ∉ seen) ∧ GoodD (e.key :: seen) r
theorem GoodD.new {e : Ent} : ∀ {r : List Ent} {seen : List Str}, GoodD seen r → e ∈ r → e.isAsk = true → e.key ∉ seen
  | [], _, _, h, _ => nomatch h
  | x :: r, seen, g, h, ha => by
    rcases List.mem_cons.mp h with rfl | h
    · exact g.1 ha
    · exact fun z => GoodD.new g.2 h ha (List.mem_cons_of_mem _ z)
/-! the greatest of some numbers -/
def maxI : List Int → Int
  | [] => 0
  | [x] => x
  | x :: y :: r => max x (maxI (y :: r))
theorem maxI_is : ∀ {xs : List Int}, xs ≠ [] → maxI xs ∈ xs ∧ ∀ x ∈ xs, x ≤ maxI xs
  | [], h => absurd rfl h
  | [x], _ => ⟨List.mem_singleton.mpr rfl, fun y hy => by rw [List.mem_singleton.mp hy]; exact Int.le_refl _⟩
  | x :: y :: r, _ => by
    obtain ⟨h1, h2⟩ := maxI_is (xs := y :: r) (by simp)
    show max x (maxI (y :: r)) ∈ _ ∧ ∀ z ∈ _, z ≤ max x (maxI (y :: r))
    refine ⟨?_, fun z hz => ?_⟩
    · by_cases hx : x ≤ maxI (y :: r)
      · rw [Int.max_eq_right hx]; exact List.mem_cons_of_mem _ h1
      · rw [Int.max_eq_left (by omega)]; exact List.mem_cons_self
    · rcases List.mem_cons.mp hz with rfl | hz
      · omega
      · have := h2 z hz; omega
theorem maxI_of {xs : List Int} {m : Int} (h1 : m ∈ xs) (h2 : ∀ x ∈ xs, x ≤ m) : m = maxI xs := by
  obtain ⟨q1, q2⟩ := maxI_is (xs := xs) (fun z => by rw [z] at h1; cases h1)
  have a := h2 _ q1
  have b := q2 _ h1
  omega
/-! loads -/
def ceilG (sh : List Shr) (g : Str) : Int := ((sh.filter fun s => decide (s.1 = g)).map (·.2.2)).headD 0
/-! the loads of all deeds -/
structure DeedsOk (es : List Ent) : Prop where
  good : GoodD [] es
  sorted : es.Pairwise fun a b => a.mom ≤ b.mom
  cost : ∀ k g c m, Ent.ask k g c m ∈ es → 0 ≤ c
/-! the law's ways to the loads -/
/-! faults -/
/-! rows of faults in order -/
theorem g_callV {S : Addr → Sp → Prop} {tf : TE} {t : TA} {σ : L2.St} {H : Hp} {Q : VK} (q : tf σ H fun v H1 => ∃ f sp, v = .ref f ∧ S f sp ∧ t σ H1 fun vs H2 => sp vs H2 Q (fun _ _ _ => False)) : tCallV S tf t σ H Q := q
def rPar (i j : Nat) (D : Ends) (σ : L2.St) (vs : List V) (H1 : Hp) : Prop := ∃ v w, vs = [v, w] ∧ D.nx ((σ.set i (some v)).set j (some w)) H1
theorem g_par {i j : Nat} {ta : TA} {D : Ends} {σ : L2.St} {H : Hp} (q : ta σ H (rPar i j D σ)) : tPar i j ta D σ H := q
theorem g_par1 {i j : Nat} {D : Ends} {σ : L2.St} {H : Hp} {v w : V} (q : D.nx ((σ.set i (some v)).set j (some w)) H) : rPar i j D σ [v, w] H := ⟨v, w, rfl, q⟩
theorem cr_maxK {X : Cx} {K : PySem.W.Frag} (h : X.K = K) (hc : X.calm = true) : CallR X (.builtin "max") (rMax K) := by subst h; exact cr_max hc
theorem g_max {K : PySem.W.Frag} {H : Hp} {Q : VK} {a : Addr} {ns : List Int} (h : SqL K H a (ns.map V.int)) (h0 : ns ≠ []) (q : Q (.int (maxI ns)) H) : rMax K [.ref a] H Q :=
  ⟨a, ns, rfl, h, List.length_pos_iff.mpr h0, fun m h1 h2 => by rw [maxI_of h1 h2]; exact q⟩
/-! ### a comprehension over the values of a dict of costs -/
def rIVals (R : It → Hp → Prop) : VK := fun x H1 => ∃ d o kvs, x = .ref d ∧ H1 d = some (.frz o (.dK kvs)) ∧ R (Itd d o kvs) H1
section
variable {K : PySem.W.Frag} {σ : L2.St} {H : Hp} {Q : VK} {te : TE} {g : TG} {vs : List Nat}
theorem g_iVals {td : TE} {R : It → Hp → Prop} (q : td σ H (rIVals R)) : iVals td σ H R := q
theorem g_vls {d : Addr} {o : Obj} {kvs : List (Key × V)} {R : It → Hp → Prop} (h : H d = some (.frz o (.dK kvs))) (q : R (Itd d o kvs) H) : rIVals R (.ref d) H := ⟨d, o, kvs, rfl, h, q⟩
/-- a comprehension over a range with a test -/
theorem lc_filtR {n : Nat} {tt : TT} (p : Nat → Bool) (f : Nat → V) (hn : n ≤ 1000000)
    (hs : ∀ i, i < n → ∀ H1, Ex H H1 → ∀ (R : VK) (N : Hp → Prop), (p i = true → ∀ H3, Ex H1 H3 → R (f i) H3) → (p i = false → ∀ H3, Ex H1 H3 → N H3) → g (.int (i : Nat)) (wipe σ vs) H1 fun σ2 H3 => wipe σ2 vs = wipe σ vs ∧ tt σ2 H3 fun b H4 => if b = true then te σ2 H4 R else N H4)
    (hq : ∀ p' H', H p' = none → Ex H H' → H' p' = some (.lst (((List.range n).filter p).map f)) → Q (.ref p') H') : LcOk (Itr 0 n) g tt te vs Q σ H := by
  intro D hD
  refine lc_it (walk_range (lo := 0) (n := n)) (fun i H' => Ex H H' ∧ H' D = some (.lst (((List.range i).filter p).map f))) ⟨Evl.Ex.new hD, upd_same⟩ (fun i H' _ h => trivial) (fun i x H1 H2 hi hP hY => ?_) (fun H' h => hq D H' hD h.1 h.2)
  obtain ⟨hE, hL⟩ := hP
  obtain ⟨rfl, rfl⟩ := hY
  rw [show ((fun i : Nat => V.int (0 + (i : Int))) i) = V.int (i : Nat) from congrArg V.int (Int.zero_add _)]
  refine hs i hi _ hE _ _ (fun hp H3 e3 => ?_) (fun hp H3 e3 => ?_)
  · refine ⟨_, e3 _ _ hL, ?_, Evl.Ex.mut (hE.trans e3) hD, ?_⟩
    · refine fits_lt ?_
      rw [List.length_map]
      have := List.length_filter_le p (List.range i)
      rw [List.length_range] at this
      omega
    · rw [upd_same, List.range_succ, List.filter_append, List.map_append]
      simp [hp]
  · refine ⟨hE.trans e3, ?_⟩
    rw [e3 _ _ hL, List.range_succ, List.filter_append]
    simp [hp]
end
/-! ### deeds in a list -/
def DsAt (K : PySem.W.Frag) (H : Hp) (xs : List (Addr × Ent)) : Prop := ∀ x ∈ xs, SqT K H x.1 (dvs x.2)
theorem DsAt.mono {K : PySem.W.Frag} {H H' : Hp} {xs : List (Addr × Ent)} (h : DsAt K H xs) (e : Ex H H') : DsAt K H' xs := fun x hx => ex_sqT e (h x hx)
abbrev eV (x : Addr × Ent) : V := .ref x.1
/-! ### a sight in the heap -/
def flS' (p pl ph : Addr) : List (Str × V) := [("limit", .ref p), ("lets", .ref pl), ("held", .ref ph)]
def PtsL (K : PySem.W.Frag) (H : Hp) (xs : List (Addr × Pt)) : Prop := ∀ x ∈ xs, SqT K H x.1 [.int x.2.1, .int x.2.2]
def AdsL (K : PySem.W.Frag) (H : Hp) (xs : List (Addr × E3)) : Prop := ∀ x ∈ xs, SqT K H x.1 [.str x.2.2.1, .int x.2.2.2]
theorem PtsL.mono {K : PySem.W.Frag} {H H' : Hp} {xs : List (Addr × Pt)} (h : PtsL K H xs) (e : Ex H H') : PtsL K H' xs := fun x hx => ex_sqT e (h x hx)
theorem AdsL.mono {K : PySem.W.Frag} {H H' : Hp} {xs : List (Addr × E3)} (h : AdsL K H xs) (e : Ex H H') : AdsL K H' xs := fun x hx => ex_sqT e (h x hx)
def PtsAt (K : PySem.W.Frag) (H : Hp) (pl : Addr) (ls : List Pt) : Prop := ∃ xs : List (Addr × Pt), xs.map (·.2) = ls ∧ SqL K H pl (xs.map fun x => V.ref x.1) ∧ PtsL K H xs
theorem PtsAt.mono {K : PySem.W.Frag} {H H' : Hp} {pl : Addr} {ls : List Pt} (h : PtsAt K H pl ls) (e : Ex H H') : PtsAt K H' pl ls := by
  obtain ⟨xs, h1, h2, h3⟩ := h
  exact ⟨xs, h1, ex_sqL e h2, h3.mono e⟩
structure SgAt (K : PySem.W.Frag) (H : Hp) (C m p : Addr) (l : Lm) (pl ph : Addr) (W : Sgt) : Prop where
  hm : ∃ dx, H m = some (.ins C dx (flS' p pl ph))
  hL : LmAt K H p l
  hl : ∃ xs : List (Addr × Pt), xs.map (·.2) = W.1 ∧ H pl = some (.lst (xs.map fun x => V.ref x.1)) ∧ PtsL K H xs
  hh : ∃ ads : List (Addr × E3), ads.map (·.2) = W.2 ∧ H ph = some (.dK (costsK ads)) ∧ AdsL K H ads
section
variable {K : PySem.W.Frag} {H H' : Hp} {C m p : Addr} {l : Lm} {pl ph : Addr} {W : Sgt} {q : Addr} {vs : List V}
theorem SgAt.mono (S : SgAt K H C m p l pl ph W) (e : Ex H H') : SgAt K H' C m p l pl ph W := by
  obtain ⟨⟨dx, h1⟩, h2, ⟨xs, h3, h4, h5⟩, ⟨ads, h6, h7, h8⟩⟩ := S
  exact ⟨⟨dx, e _ _ h1⟩, h2.mono e, ⟨xs, h3, e _ _ h4, h5.mono e⟩, ⟨ads, h6, e _ _ h7, h8.mono e⟩⟩
theorem SgAt.sqT (S : SgAt K H C m p l pl ph W) (e : ExD pl ph H H') (h : SqT K H q vs) : SqT K H' q vs := by
  obtain ⟨xs, _, hl, _⟩ := S.hl
  obtain ⟨ads, _, hh, _⟩ := S.hh
  rcases h with (h | ⟨o, h⟩) | h
  · exact .inl (.inl (e q _ (fun z => by rw [z, hl] at h; cases h) (fun z => by rw [z, hh] at h; cases h) h))
  · exact .inl (.inr ⟨o, e q _ (fun z => by rw [z, hl] at h; cases h) (fun z => by rw [z, hh] at h; cases h) h⟩)
  · exact .inr h
theorem SgAt.lm (S : SgAt K H C m p l pl ph W) {p2 : Addr} {l2 : Lm} (e : ExD pl ph H H') (h : LmAt K H p2 l2) : LmAt K H' p2 l2 := h.tr fun q vs z => S.sqT e z
theorem SgAt.ne (S : SgAt K H C m p l pl ph W) : pl ≠ ph := fun z => by
  obtain ⟨xs, _, hl, _⟩ := S.hl
  obtain ⟨ads, _, hh, _⟩ := S.hh
  rw [z, hh] at hl
  cases hl
theorem SgAt.mne (S : SgAt K H C m p l pl ph W) : m ≠ pl ∧ m ≠ ph := by
  obtain ⟨dx, hm⟩ := S.hm
  obtain ⟨xs, _, hl, _⟩ := S.hl
  obtain ⟨ads, _, hh, _⟩ := S.hh
  exact ⟨(fun z => by rw [z, hl] at hm; cases hm), (fun z => by rw [z, hh] at hm; cases hm)⟩
/-- what is held is dropped -/
theorem SgAt.drop (S : SgAt K H C m p l pl ph W) {k : Str} {ads : List (Addr × E3)} (h6 : ads.map (·.2) = W.2) (h7 : H ph = some (.dK (costsK ads))) (h8 : AdsL K H ads) :
    SgAt K (upd H ph (.dK (dropK (costsK ads) (Sum.inr k)))) C m p l pl ph (W.1, W.2.filter fun e => decide (e.1 ≠ k)) := by
  have e : ExD pl ph H (upd H ph (.dK (dropK (costsK ads) (Sum.inr k)))) := (ExD.of (Evl.Ex.refl _)).upD
  obtain ⟨xs, h3, h4, h5⟩ := S.hl
  obtain ⟨dx, hm⟩ := S.hm
  refine ⟨⟨dx, by rw [upd_ne S.mne.2]; exact hm⟩, S.lm e S.hL, ⟨xs, h3, by rw [upd_ne S.ne]; exact h4, fun x hx => S.sqT e (h5 x hx)⟩, ⟨ads.filter fun x => decide (x.2.1 ≠ k), ?_, by rw [upd_same, costs_drop], fun x hx => S.sqT e (h8 x (List.mem_filter.mp hx).1)⟩⟩
  rw [← h6, List.filter_map]
  rfl
end
/-! ### the load by words -/
/-! ### rows of a number and a load -/
def RowsA (K : PySem.W.Frag) (H : Hp) (rs : List (Addr × Nat × Option Int)) : Prop := ∀ r ∈ rs, SqT K H r.1 [.int (r.2.1 : Int), oN r.2.2]
theorem RowsA.mono {K : PySem.W.Frag} {H H' : Hp} {rs : List (Addr × Nat × Option Int)} (h : RowsA K H rs) (e : Ex H H') : RowsA K H' rs := fun x hx => ex_sqT e (h x hx)
theorem isKey_ok {z : Str} (h : isKey z = true) : PyData.strOk z = true := part_ok (isKey_part h)
def ShrsOk (sh : List Shr) : Prop := 1 ≤ sh.length ∧ sh.length ≤ 8 ∧ Asc (sh.map (·.1)) ∧ ∀ s ∈ sh, isName s.1 = true ∧ 0 ≤ s.2.1 ∧ s.2.1 ≤ 4 ∧ s.2.1 ≤ s.2.2 ∧ s.2.2 ≤ 11
def oD : Option Int → PyData
  | none => .none
  | some i => .int i
theorem dp_oN {K : PySem.W.Frag} {H : Hp} (o : Option Int) : Dp K H (oN o) (oD o) := by
  cases o with
  | none => exact .non
  | some i => exact .int i
/-! ### rows of a number and a name -/
def FRows (K : PySem.W.Frag) (H : Hp) (rs : List (Addr × Nat × Str)) : Prop := ∀ r ∈ rs, SqT K H r.1 [.int (r.2.1 : Int), .str r.2.2]
theorem FRows.mono {K : PySem.W.Frag} {H H' : Hp} {rs : List (Addr × Nat × Str)} (h : FRows K H rs) (e : Ex H H') : FRows K H' rs := fun x hx => ex_sqT e (h x hx)
/-! ### the drawn names and keys of the family -/
def LETN : List Nat := ("abcdefghijklmnopqrstuvwxyz0123456789" : Str).cps.toList
def LETK : List Nat := ("-abcdefghijklmnopqrstuvwxyz0123456789" : Str).cps.toList
theorem letn_inj : ∀ i, i < 36 → ∀ j, j < 36 → LETN.getD i 0 = LETN.getD j 0 → i = j := by decide +kernel
theorem letk_inj : ∀ i, i < 37 → ∀ j, j < 37 → LETK.getD i 0 = LETK.getD j 0 → i = j := by decide +kernel
theorem letn_in : ∀ i, i < 36 → inLet (LETN.getD i 0) = true := by decide +kernel
theorem letk_in : ∀ i, i < 37 → (inLet (LETK.getD i 0) || decide (LETK.getD i 0 = 45)) = true := by decide +kernel
theorem letn_len : ("abcdefghijklmnopqrstuvwxyz0123456789" : Str).cps.toList.length = 36 := by decide +kernel
theorem letk_len : ("-abcdefghijklmnopqrstuvwxyz0123456789" : Str).cps.toList.length = 37 := by decide +kernel
/-- the k-th name: one sign, or the sign within the rest -/
def famC (n o : Int) (k : Nat) : Nat := LETN.getD ((o * 5 + n + 7 * (k : Int)) % 36).toNat 0
def famN (n o : Int) (R : List Nat) (p : Nat) (k : Nat) : Str := if (n / 12 + (k : Int)) % 3 = 1 then ⟨#[famC n o k]⟩ else stxt (R.take p ++ famC n o k :: R.drop p)
theorem famC_inj {n o : Int} {i j : Nat} (hi : i < 36) (hj : j < 36) (h : famC n o i = famC n o j) : i = j := by
  have q := letn_inj _ (by omega) _ (by omega) h
  omega
theorem famN_tl (n o : Int) (R : List Nat) (p k : Nat) : tl (famN n o R p k) = [famC n o k] ∨ tl (famN n o R p k) = R.take p ++ famC n o k :: R.drop p := by
  unfold famN
  by_cases h : (n / 12 + (k : Int)) % 3 = 1
  · rw [if_pos h]; exact .inl rfl
  · rw [if_neg h]; exact .inr rfl
theorem take_drop_len (R : List Nat) (p c : Nat) : (R.take p ++ c :: R.drop p).length = R.length + 1 := by
  rw [List.length_append, List.length_cons, List.length_take, List.length_drop]
  omega
theorem famN_inj {n o : Int} {R : List Nat} {p i j : Nat} (hi : i < 36) (hj : j < 36) (h : famN n o R p i = famN n o R p j) : i = j := by
  have ht := congrArg tl h
  refine famC_inj (n := n) (o := o) hi hj ?_
  have one : ∀ {a b : Nat}, [a] = R.take p ++ b :: R.drop p → a = b := fun {a b} e => by
    have hl := congrArg List.length e
    rw [take_drop_len] at hl
    have hR : R = [] := List.length_eq_zero_iff.mp (by simpa using hl.symm)
    rw [hR] at e
    simp at e
    exact e
  rcases famN_tl n o R p i with e1 | e1 <;> rcases famN_tl n o R p j with e2 | e2 <;> rw [e1, e2] at ht
  · exact (List.cons.inj ht).1
  · exact one ht
  · exact (one ht.symm).symm
  · exact (List.cons.inj (List.append_cancel_left ht)).1
theorem isName_of {z : Str} (h1 : 1 ≤ (tl z).length) (h2 : (tl z).length ≤ 12) (h3 : ∀ c ∈ tl z, inLet c = true) : isName z = true := by
  unfold isName
  rw [len_tl, decide_eq_true (by omega), decide_eq_true (by omega), List.all_eq_true.mpr h3]
  rfl
theorem isKey_of {z : Str} (h1 : 1 ≤ (tl z).length) (h2 : (tl z).length ≤ 20) (h3 : ∀ c ∈ tl z, (inLet c || decide (c = 45)) = true) : isKey z = true := by
  unfold isKey
  rw [len_tl, decide_eq_true (by omega), decide_eq_true (by omega), List.all_eq_true.mpr h3]
  rfl
theorem famN_name {n o : Int} {R : List Nat} {p k : Nat} (hR : R.length ≤ 11) (hin : ∀ c ∈ R, inLet c = true) : isName (famN n o R p k) = true := by
  have hc : inLet (famC n o k) = true := letn_in _ (by omega)
  rcases famN_tl n o R p k with e | e
  · refine isName_of (by rw [e]; exact Nat.le_refl _) (by rw [e]; show 1 ≤ 12; decide) fun c hc2 => ?_
    rw [e] at hc2
    rw [List.mem_singleton.mp hc2]
    exact hc
  · refine isName_of (by rw [e, take_drop_len]; omega) (by rw [e, take_drop_len]; omega) fun c hc2 => ?_
    rw [e] at hc2
    rcases List.mem_append.mp hc2 with z | z
    · exact hin c (List.mem_of_mem_take z)
    · rcases List.mem_cons.mp z with z | z
      · rw [z]; exact hc
      · exact hin c (List.mem_of_mem_drop z)
theorem nodup_range {f : Nat → Str} {m : Nat} (h : ∀ i, i < m → ∀ j, j < m → f i = f j → i = j) : ((List.range m).map f).Nodup := by
  rw [List.nodup_iff_pairwise_ne, List.pairwise_map]
  refine List.Pairwise.imp_of_mem ?_ (List.nodup_iff_pairwise_ne.mp List.nodup_range)
  intro a b ha hb hab e
  exact hab (h a (List.mem_range.mp ha) b (List.mem_range.mp hb) e)
/-- the k-th key -/
def keyC (o : Int) (k : Nat) : Nat := LETK.getD ((o + 5 * (k : Int)) % 37).toNat 0
def keyW (n : Int) (k : Nat) : Nat := LETK.getD ((n + (k : Int) / 37) % 37).toNat 0
def keyK (n o : Int) (R : List Nat) (p k : Nat) : Str := stxt (R.take p ++ keyC o k :: keyW n k :: R.drop p)
theorem keyK_inj {n o : Int} {R : List Nat} {p i j : Nat} (hi : i < 37) (hj : j < 37) (h : keyK n o R p i = keyK n o R p j) : i = j := by
  have ht : R.take p ++ keyC o i :: keyW n i :: R.drop p = R.take p ++ keyC o j :: keyW n j :: R.drop p := congrArg tl h
  have hc := (List.cons.inj (List.append_cancel_left ht)).1
  have q := letk_inj _ (by omega) _ (by omega) hc
  omega
theorem keyK_key {n o : Int} {R : List Nat} {p k : Nat} (hR : R.length ≤ 18) (hin : ∀ c ∈ R, (inLet c || decide (c = 45)) = true) : isKey (keyK n o R p k) = true := by
  have e : tl (keyK n o R p k) = R.take p ++ keyC o k :: keyW n k :: R.drop p := rfl
  have hl : (R.take p ++ keyC o k :: keyW n k :: R.drop p).length = R.length + 2 := by
    rw [List.length_append, List.length_cons, List.length_cons, List.length_take, List.length_drop]
    omega
  refine isKey_of (by rw [e, hl]; omega) (by rw [e, hl]; omega) fun c hc2 => ?_
  rw [e] at hc2
  rcases List.mem_append.mp hc2 with z | z
  · exact hin c (List.mem_of_mem_take z)
  · rcases List.mem_cons.mp z with z | z
    · rw [z]; exact letk_in _ (by omega)
    · rcases List.mem_cons.mp z with z | z
      · rw [z]; exact letk_in _ (by omega)
      · exact hin c (List.mem_of_mem_drop z)
/-! ### shares in order -/
def encS (s : Shr) : PyData := .tuple [.str s.1, .int s.2.1, .int s.2.2]
theorem leS_names {a b : Shr} (h : PySem.W.dataLe false encS a b = true) : a.1.cps.toList ≤ b.1.cps.toList := by
  have g : (!PySem.W.dataLt (.tuple [.str b.1, .int b.2.1, .int b.2.2]) (.tuple [.str a.1, .int a.2.1, .int a.2.2])) = true := h
  by_cases hx : a.1 = b.1
  · rw [hx]; exact List.le_refl _
  · rw [PySem.W.dataLt_tuple, PySem.W.dataLt_cons (by rfl)] at g
    have ey : PyData.eqv (.str b.1) (.str a.1) = false := by
      simp only [PyData.eqv, beq_eq_false_iff_ne]
      exact fun z => hx z.symm
    rw [ey, if_neg (by decide), PySem.W.dataLt_str, Bool.not_eq_true', decide_eq_false_iff_not] at g
    exact List.not_lt.mp g
def sortS' (xs : List (Addr × Shr)) : List (Addr × Shr) := xs.mergeSort (PySem.W.dataLe false fun x => encS x.2)
theorem sortS'_perm (xs : List (Addr × Shr)) : (sortS' xs).Perm xs := List.mergeSort_perm _ _
theorem sortS'_asc {xs : List (Addr × Shr)} (h : (xs.map fun x => x.2.1).Nodup) : Asc ((sortS' xs).map fun x => x.2.1) := by
  refine asc_of (((sortS'_perm xs).map _).nodup_iff.mpr h) ?_
  rw [List.pairwise_map]
  exact (PySem.W.sort_pairwise (le := PySem.W.dataLe false fun x : Addr × Shr => encS x.2) (PySem.W.sortLe_total _ false _) xs).imp fun {x y} q => leS_names q
theorem g_sortSh {K : PySem.W.Frag} {H : Hp} {Q : VK} {pf : Addr} {xs : List (Addr × Shr)} (hL : SqL K H pf (xs.map fun x => V.ref x.1)) (hR : ∀ x ∈ xs, SqT K H x.1 [.str x.2.1, .int x.2.2.1, .int x.2.2.2])
    (q : ∀ p, H p = none → Q (.ref p) (upd H p (.lst ((sortS' xs).map fun x => V.ref x.1)))) : rSortedD K [.ref pf] H Q := by
  refine ⟨pf, _, xs, (fun x => V.ref x.1), (fun x => encS x.2), rfl, hL, fun r hr => .tup (hR r hr) (.cons (.str _) (.cons (.int _) (.cons (.int _) .nil))), PySem.W.AllAlike.of fun _ _ => rfl, .inl fun d hd => ?_, fun r hr => ?_, fun p hp => q p hp⟩
  · obtain ⟨z, _, rfl⟩ := List.mem_map.mp hd
    exact ⟨_, _, rfl⟩
  · show max 0 (max 0 (max 0 0)) + 1 ≤ 8
    decide
theorem step_at (n : Int) : ∃ v : Int, atI [V.int 0, V.int 0, V.int 1, V.int 1, V.int 2, V.int 3, V.int 6, V.int 11] (n % 8) = some (.int v) ∧ 0 ≤ v ∧ v ≤ 11 := by
  obtain ⟨k, hk⟩ := Int.eq_ofNat_of_zero_le (show 0 ≤ n % 8 by omega)
  rw [hk]
  have h8 : k < 8 := by omega
  have key : ∀ k : Nat, k < 8 → ∃ v : Int, atI [V.int 0, V.int 0, V.int 1, V.int 1, V.int 2, V.int 3, V.int 6, V.int 11] (k : Int) = some (.int v) ∧ 0 ≤ v ∧ v ≤ 11 := fun k hk => by
    match k, hk with
    | 0, _ => exact ⟨0, rfl, by decide, by decide⟩
    | 1, _ => exact ⟨0, rfl, by decide, by decide⟩
    | 2, _ => exact ⟨1, rfl, by decide, by decide⟩
    | 3, _ => exact ⟨1, rfl, by decide, by decide⟩
    | 4, _ => exact ⟨2, rfl, by decide, by decide⟩
    | 5, _ => exact ⟨3, rfl, by decide, by decide⟩
    | 6, _ => exact ⟨6, rfl, by decide, by decide⟩
    | 7, _ => exact ⟨11, rfl, by decide, by decide⟩
  exact key k h8
theorem menu3 (a b : Bool) : ∃ v : Int, atI [V.int 3, V.int 7, V.int 8] ((if a = true then 1 else 0) + if b = true then 1 else 0) = some (.int v) ∧ 3 ≤ v ∧ v ≤ 8 := by
  cases a <;> cases b
  · exact ⟨3, rfl, by decide, by decide⟩
  · exact ⟨7, rfl, by decide, by decide⟩
  · exact ⟨7, rfl, by decide, by decide⟩
  · exact ⟨8, rfl, by decide, by decide⟩
def words6L : List Str := ["window", "span", "bucket", "gap", "held", "pool"]
theorem words6 (n : Int) : ∃ w : Str, atI [V.str "window", V.str "span", V.str "bucket", V.str "gap", V.str "held", V.str "pool"] (n % 6) = some (.str w) ∧ w ∈ words6L := by
  obtain ⟨k, hk⟩ := Int.eq_ofNat_of_zero_le (show 0 ≤ n % 6 by omega)
  rw [hk]
  have h6 : k < 6 := by omega
  have key : ∀ k : Nat, k < 6 → ∃ w : Str, atI [V.str "window", V.str "span", V.str "bucket", V.str "gap", V.str "held", V.str "pool"] (k : Int) = some (.str w) ∧ w ∈ words6L := fun k hk => by
    match k, hk with
    | 0, _ => exact ⟨"window", rfl, by simp [words6L]⟩
    | 1, _ => exact ⟨"span", rfl, by simp [words6L]⟩
    | 2, _ => exact ⟨"bucket", rfl, by simp [words6L]⟩
    | 3, _ => exact ⟨"gap", rfl, by simp [words6L]⟩
    | 4, _ => exact ⟨"held", rfl, by simp [words6L]⟩
    | 5, _ => exact ⟨"pool", rfl, by simp [words6L]⟩
  exact key k h6
/-- if without else: both ways go on alike -/
theorem w_thn {p : Prop} [Decidable p] {t : TS} {D : Ends} {σ : L2.St} {H : Hp} (W : L2.St → Hp → Prop) (h1 : p → ∀ D' : Ends, (∀ σ' H', W σ' H' → D'.nx σ' H') → t D' σ H) (h0 : ¬ p → W σ H) (hk : ∀ σ' H', W σ' H' → D.nx σ' H') :
    if decide p = true then t D σ H else tNext D σ H := w_dec (fun h => h1 h D hk) (fun h => hk _ _ (h0 h))
theorem sum_own {sh : List Shr} (h : ∀ s ∈ sh, 0 ≤ s.2.1 ∧ s.2.1 ≤ 4) : 0 ≤ (sh.map (·.2.1)).sum ∧ (sh.map (·.2.1)).sum ≤ 4 * (sh.length : Int) := by
  induction sh with
  | nil => exact ⟨Int.le_refl _, Int.le_refl _⟩
  | cons s r ih =>
    have h1 := h s List.mem_cons_self
    have h2 := ih fun x hx => h x (List.mem_cons_of_mem _ hx)
    show 0 ≤ s.2.1 + (r.map (·.2.1)).sum ∧ s.2.1 + (r.map (·.2.1)).sum ≤ 4 * ((r.length + 1 : Nat) : Int)
    omega
theorem g_sortStr {K : PySem.W.Frag} {H : Hp} {Q : VK} {pf : Addr} {zs : List Str} (hL : SqL K H pf (zs.map V.str)) (q : ∀ p, H p = none → Q (.ref p) (upd H p (.lst ((sortS zs).map V.str)))) : rSortedD K [.ref pf] H Q := by
  refine ⟨pf, _, zs, V.str, PyData.str, rfl, hL, fun r hr => .str _, PySem.W.AllAlike.of fun _ _ => rfl, .inr fun d hd => ?_, fun r hr => by show 0 ≤ 8; decide, fun p hp => q p hp⟩
  obtain ⟨z, _, rfl⟩ := List.mem_map.mp hd
  exact ⟨fun w => (nomatch w), fun xs w => (nomatch w)⟩
def bitsL : List Int := [3, 6, 12, 24, 48, 96, 192, 384]
theorem bits8 {i : Nat} (h : i < 8) : atI [V.int 3, V.int 6, V.int 12, V.int 24, V.int 48, V.int 96, V.int 192, V.int 384] (i : Int) = some (.int (bitsL.getD i 1)) ∧ 0 < bitsL.getD i 1 ∧ bitsL.getD i 1 ≤ 384 := by
  match i, h with
  | 0, _ => exact ⟨rfl, by decide, by decide⟩
  | 1, _ => exact ⟨rfl, by decide, by decide⟩
  | 2, _ => exact ⟨rfl, by decide, by decide⟩
  | 3, _ => exact ⟨rfl, by decide, by decide⟩
  | 4, _ => exact ⟨rfl, by decide, by decide⟩
  | 5, _ => exact ⟨rfl, by decide, by decide⟩
  | 6, _ => exact ⟨rfl, by decide, by decide⟩
  | 7, _ => exact ⟨rfl, by decide, by decide⟩
theorem nodup_getD {gs : List Str} (h : gs.Nodup) (p : Nat → Bool) : (((List.range gs.length).filter p).map fun i => gs.getD i Str.empty).Nodup := by
  rw [List.nodup_iff_pairwise_ne, List.pairwise_map]
  refine List.Pairwise.imp_of_mem ?_ (List.nodup_iff_pairwise_ne.mp (List.nodup_range.filter p))
  intro a b ha hb hab e
  have ha2 := List.mem_range.mp (List.mem_filter.mp ha).1
  have hb2 := List.mem_range.mp (List.mem_filter.mp hb).1
  rw [List.getD_eq_getElem?_getD, List.getD_eq_getElem?_getD, List.getElem?_eq_getElem ha2, List.getElem?_eq_getElem hb2] at e
  exact hab ((List.getElem_inj h).mp e)
/-! ### what is drawn -/
def NamesOk (zs : List Str) : Prop := zs.Nodup ∧ ∀ z ∈ zs, isName z = true
def KeysOk (zs : List Str) : Prop := zs.Nodup ∧ ∀ z ∈ zs, isKey z = true
def EntIn (ks gs : List Str) : Ent → Prop
  | .ask k g c m => k ∈ ks ∧ g ∈ gs ∧ 1 ≤ c ∧ c ≤ 1000 ∧ 0 ≤ m ∧ m ≤ 1000000000
  | .rel k m => k ∈ ks ∧ 0 ≤ m ∧ m ≤ 1000000000
structure FamOk (ks gs : List Str) (es : List Ent) : Prop where
  good : GoodD [] es
  sorted : es.Pairwise fun a b => a.mom ≤ b.mom
  all : ∀ e ∈ es, EntIn ks gs e
/-- a row under way: its last moment is at most mo, its requests have the first j keys -/
structure FamRow (ks gs : List Str) (mo : Int) (j : Nat) (es : List Ent) : Prop where
  fam : FamOk ks gs es
  low : ∀ e ∈ es, e.mom ≤ mo
  keys : ∀ e ∈ es, e.key ∈ ks.take j
theorem FamRow.nil {ks gs : List Str} {mo : Int} {j : Nat} : FamRow ks gs mo j [] := ⟨⟨trivial, List.Pairwise.nil, (fun e he => nomatch he)⟩, (fun e he => nomatch he), (fun e he => nomatch he)⟩
theorem good_snoc {e : Ent} : ∀ {es : List Ent} {seen : List Str}, GoodD seen es → (e.isAsk = true → e.key ∉ seen ∧ e.key ∉ es.map Ent.key) → GoodD seen (es ++ [e])
  | [], seen, _, h => ⟨fun ha => (h ha).1, trivial⟩
  | x :: r, seen, g, h => by
    refine ⟨g.1, good_snoc g.2 fun ha => ?_⟩
    obtain ⟨h1, h2⟩ := h ha
    refine ⟨fun z => ?_, fun z => h2 (List.mem_cons_of_mem _ z)⟩
    rcases List.mem_cons.mp z with z | z
    · exact h2 (by rw [z]; exact List.mem_cons_self)
    · exact h1 z
theorem FamRow.snoc {ks gs : List Str} {mo mo' : Int} {j j' : Nat} {es : List Ent} {e : Ent} (h : FamRow ks gs mo j es) (hmo : mo ≤ mo') (he : e.mom = mo') (hj : j ≤ j') (hin : EntIn ks gs e) (hk : e.key ∈ ks.take j') (hn : e.isAsk = true → e.key ∉ ks.take j) : FamRow ks gs mo' j' (es ++ [e]) := by
  have sub : ∀ k, k ∈ ks.take j → k ∈ ks.take j' := fun k hk => (List.take_subset_take_left ks hj) hk
  refine ⟨⟨good_snoc h.fam.good fun ha => ⟨(fun z => nomatch z), fun z => ?_⟩, ?_, fun x hx => ?_⟩, fun x hx => ?_, fun x hx => ?_⟩
  · obtain ⟨y, hy, hyk⟩ := List.mem_map.mp z
    exact hn ha (by rw [← hyk]; exact h.keys y hy)
  · rw [List.pairwise_append]
    refine ⟨h.fam.sorted, List.pairwise_singleton _ _, fun a ha b hb => ?_⟩
    rw [List.mem_singleton.mp hb, he]
    exact Int.le_trans (h.low a ha) hmo
  · rcases List.mem_append.mp hx with hx | hx
    · exact h.fam.all x hx
    · rw [List.mem_singleton.mp hx]; exact hin
  · rcases List.mem_append.mp hx with hx | hx
    · exact Int.le_trans (h.low x hx) hmo
    · rw [List.mem_singleton.mp hx, he]; exact Int.le_refl _
  · rcases List.mem_append.mp hx with hx | hx
    · exact sub _ (h.keys x hx)
    · rw [List.mem_singleton.mp hx]; exact hk
theorem good_sub {es es' : List Ent} (h : es'.Sublist es) : ∀ {seen seen' : List Str}, GoodD seen es → (∀ k ∈ seen', k ∈ seen) → GoodD seen' es' := by
  induction h with
  | slnil => exact fun _ _ => trivial
  | cons a _ ih => exact fun g hs => ih g.2 fun k hk => List.mem_cons_of_mem _ (hs k hk)
  | cons_cons a _ ih => exact fun g hs => ⟨fun ha z => g.1 ha (hs _ z), ih g.2 fun k hk => by
      rcases List.mem_cons.mp hk with z | z
      · rw [z]; exact List.mem_cons_self
      · exact List.mem_cons_of_mem _ (hs k z)⟩
theorem FamOk.sub {ks gs : List Str} {es es' : List Ent} (h : FamOk ks gs es) (s : es'.Sublist es) : FamOk ks gs es' := ⟨good_sub s h.good fun _ z => z, h.sorted.sublist s, fun e he => h.all e (s.mem he)⟩
theorem FamRow.done {ks gs : List Str} {mo : Int} {j n : Nat} {es : List Ent} (h : FamRow ks gs mo j es) (hj : j ≤ n) : FamOk (ks.take n) gs es := by
  refine ⟨h.fam.good, h.fam.sorted, fun e he => ?_⟩
  have hk := (List.take_subset_take_left ks hj) (h.keys e he)
  have q := h.fam.all e he
  cases e with
  | ask k g c m => exact ⟨hk, q.2⟩
  | rel k m => exact ⟨hk, q.2⟩
theorem KeysOk.take {zs : List Str} (h : KeysOk zs) (n : Nat) : KeysOk (zs.take n) := ⟨h.1.sublist (List.take_sublist _ _), fun z hz => h.2 z (List.mem_of_mem_take hz)⟩
/-- an element that is a row of a number and a load -/
def WLd (K : PySem.W.Frag) (r : Nat × Option Int) (y : V) (H : Hp) : Prop := ∃ t, y = .ref t ∧ SqT K H t [.int (r.1 : Int), oN r.2]
theorem WLd.mono {K : PySem.W.Frag} {r : Nat × Option Int} {y : V} {H H' : Hp} (w : WLd K r y H) (e : Ex H H') : WLd K r y H' := by
  obtain ⟨t, h1, h2⟩ := w
  exact ⟨t, h1, ex_sqT e h2⟩
theorem WLd.lst {K : PySem.W.Frag} {r : Nat × Option Int} {y : V} {H : Hp} {D : Addr} {acc : List V} {o : HO} (w : WLd K r y H) (hD : H D = some (.lst acc)) : WLd K r y (upd H D o) := by
  obtain ⟨t, h1, h2⟩ := w
  exact ⟨t, h1, sqT_lst hD h2⟩
/-! ### the fullest moment, and what a request would break: plain law -/
def bet (g : Bool) (x y : Int) : Bool := if g = true then decide (x < y) else decide (x > y)
def fullStep (g : Bool) (b : Option (Nat × Int)) (r : Nat × Option Int) : Option (Nat × Int) := match r.2 with
  | none => b
  | some x => match b with
    | none => some (r.1, x)
    | some c => if bet g x c.2 = true then some (r.1, x) else some c
def FirstB (g : Bool) (xs : List (Nat × Int)) : Option (Nat × Int) → Prop
  | none => xs = []
  | some r => ∃ A B, xs = A ++ r :: B ∧ (∀ a ∈ A, bet g r.2 a.2 = true) ∧ ∀ b ∈ B, bet g b.2 r.2 = false
theorem bet_tr {g : Bool} {x y z : Int} (h1 : bet g x y = true) (h2 : bet g y z = true) : bet g x z = true := by
  unfold bet at *
  cases g
  · have a := of_decide_eq_true h1
    have b := of_decide_eq_true h2
    exact decide_eq_true (by omega)
  · have a := of_decide_eq_true h1
    have b := of_decide_eq_true h2
    exact decide_eq_true (by omega)
theorem bet_lt {g : Bool} {x y z : Int} (h1 : bet g x y = true) (h2 : bet g z y = false) : bet g x z = true := by
  unfold bet at *
  cases g
  · have a := of_decide_eq_true h1
    have b := of_decide_eq_false h2
    exact decide_eq_true (by omega)
  · have a := of_decide_eq_true h1
    have b := of_decide_eq_false h2
    exact decide_eq_true (by omega)
theorem FirstB.snoc {g : Bool} {xs : List (Nat × Int)} {b : Option (Nat × Int)} {n : Nat} {x : Int} (h : FirstB g xs b) : FirstB g (xs ++ [(n, x)]) (fullStep g b (n, some x)) := by
  cases b with
  | none =>
    have h : xs = [] := h
    subst h
    exact ⟨[], [], rfl, (fun a ha => nomatch ha), (fun a ha => nomatch ha)⟩
  | some c =>
    obtain ⟨A, B, e, hA, hB⟩ := h
    show FirstB g (xs ++ [(n, x)]) (if bet g x c.2 = true then some (n, x) else some c)
    by_cases hb : bet g x c.2 = true
    · rw [if_pos hb]
      refine ⟨xs, [], rfl, fun a ha => ?_, (fun a ha => nomatch ha)⟩
      rw [e] at ha
      rcases List.mem_append.mp ha with z | z
      · exact bet_tr hb (hA a z)
      · rcases List.mem_cons.mp z with z | z
        · rw [z]; exact hb
        · exact bet_lt hb (hB a z)
    · rw [if_neg hb]
      refine ⟨A, B ++ [(n, x)], by rw [e]; simp, hA, fun b hb2 => ?_⟩
      rcases List.mem_append.mp hb2 with z | z
      · exact hB b z
      · rw [List.mem_singleton.mp z]
        cases q : bet g x c.2 with
        | true => exact absurd q hb
        | false => rfl
def FullV (K : PySem.W.Frag) (H : Hp) (v : V) : Option (Nat × Int) → Prop
  | none => v = .non
  | some r => ∃ t, v = .ref t ∧ SqT K H t [.int (r.1 : Int), .int r.2]
theorem FullV.mono {K : PySem.W.Frag} {H H' : Hp} {v : V} {o : Option (Nat × Int)} (h : FullV K H v o) (e : Ex H H') : FullV K H' v o := by
  cases o with
  | none => exact h
  | some r =>
    obtain ⟨t, h1, h2⟩ := h
    exact ⟨t, h1, ex_sqT e h2⟩
def fullD : Option (Nat × Int) → PyData
  | none => .none
  | some r => .tuple [.int (r.1 : Int), .int r.2]
theorem FullV.dp {K : PySem.W.Frag} {H : Hp} {v : V} {o : Option (Nat × Int)} (h : FullV K H v o) : Dp K H v (fullD o) := by
  cases o with
  | none =>
    have h : v = .non := h
    subst h
    exact .non
  | some r =>
    obtain ⟨t, rfl, h2⟩ := h
    exact .tup h2 (.cons (.int _) (.cons (.int _) .nil))
/-! what a request would break -/
theorem DeedsOk.snoc {P : List Ent} {k g : Str} {c mo : Int} (h : DeedsOk P) (hk : k ∉ P.map Ent.key) (hm : ∀ e ∈ P, e.mom ≤ mo) (hc : 0 ≤ c) : DeedsOk (P ++ [.ask k g c mo]) := by
  refine ⟨good_snoc h.good fun _ => ⟨(fun z => nomatch z), hk⟩, ?_, fun k1 g1 c1 m1 h1 => ?_⟩
  · rw [List.pairwise_append]
    refine ⟨h.sorted, List.pairwise_singleton _ _, fun a ha b hb => ?_⟩
    rw [List.mem_singleton.mp hb]
    exact hm a ha
  · rcases List.mem_append.mp h1 with z | z
    · exact h.cost _ _ _ _ z
    · have e := List.mem_singleton.mp z
      injection e with _ _ e _
      rw [e]; exact hc
theorem str_mod {gs : List Str} (h : 0 < gs.length) (n : Int) : ∃ g ∈ gs, atI (gs.map V.str) (n % (gs.length : Int)) = some (.str g) := by
  have z0 := Int.emod_nonneg n (show (gs.length : Int) ≠ 0 by omega)
  have z1 := Int.emod_lt_of_pos n (show (0 : Int) < (gs.length : Int) by omega)
  obtain ⟨t, ht⟩ := Int.eq_ofNat_of_zero_le z0
  rw [ht] at z1 ⊢
  have htl : t < gs.length := by omega
  exact ⟨gs[t], List.getElem_mem htl, atI_nat (by rw [List.getElem?_map, List.getElem?_eq_getElem htl]; rfl)⟩
theorem str_at {gs : List Str} {i : Nat} (h : i < gs.length) : ∃ g, gs[i]? = some g ∧ g ∈ gs ∧ atI (gs.map V.str) (i : Int) = some (.str g) := ⟨gs[i], List.getElem?_eq_getElem h, List.getElem_mem h, atI_nat (by rw [List.getElem?_map, List.getElem?_eq_getElem h]; rfl)⟩
/-! ### room under a limit, by the definitions: plain law -/
abbrev Q4 : Type := Str × Str × Int × Int
def seen4 (l : Lm) (xs : List Q4) : List Q4 := xs.filter fun q => seesL l q.2.1
def held4 (l : Lm) (xs : List Q4) (gone : List Str) : List Q4 := (seen4 l xs).filter fun q => decide (q.1 ∉ gone)
def e34 (q : Q4) : E3 := (q.1, q.2.1, q.2.2.1)
def sum4 (xs : List Q4) : Int := (xs.map fun q => q.2.2.1).sum
def winR (a b : Int) (S : List Q4) (c mo : Int) : Bool := decide (sum4 (S.filter fun q => decide (q.2.2.2 > mo - b)) + c ≤ a)
def spanR (a b : Int) (S : List Q4) (c mo : Int) : Bool := decide (sum4 (S.filter fun q => decide (q.2.2.2 / b = mo / b)) + c ≤ a)
def buckR (a b : Int) (S : List Q4) (c mo : Int) : Bool := (S.map (fun q => q.2.2.2) ++ [mo]).all fun s => decide (b * (sum4 (S.filter fun q => decide (q.2.2.2 ≥ s)) + c) ≤ a * b + mo - s)
def gapR (a : Int) (S : List Q4) (mo : Int) : Bool := S.all fun q => decide (mo - q.2.2.2 ≥ a)
def heldR (a : Int) (Hd : List Q4) (c : Int) : Bool := decide (sum4 Hd + c ≤ a)
def useR (Hd : List Q4) (g : Str) (c : Int) (s : Str) : Int := sum4 (Hd.filter fun q => decide (q.2.1 = s)) + c * (if s = g then 1 else 0)
def overR (Hd : List Q4) (g : Str) (c : Int) (s : Shr) : Int := if useR Hd g c s.1 - s.2.1 > 0 then useR Hd g c s.1 - s.2.1 else 0
def poolR (m : Int) (sh : List Shr) (Hd : List Q4) (g : Str) (c : Int) : Bool := !(sh.any fun s => decide (s.1 = g) && decide (useR Hd g c s.1 > s.2.2)) && decide ((sh.map (overR Hd g c)).sum ≤ m - (sh.map (·.2.1)).sum)
def roomS (l : Lm) (xs : List Q4) (gone : List Str) (g : Str) (c mo : Int) : Bool := match l.nu with
  | .pool m sh => poolR m sh (held4 l xs gone) g c
  | .flat ns => if l.wd = "gap" then gapR (ns.getD 0 0) (seen4 l xs) mo else if l.wd = "window" then winR (ns.getD 0 0) (ns.getD 1 0) (seen4 l xs) c mo else if l.wd = "span" then spanR (ns.getD 0 0) (ns.getD 1 0) (seen4 l xs) c mo
    else if l.wd = "bucket" then buckR (ns.getD 0 0) (ns.getD 1 0) (seen4 l xs) c mo else heldR (ns.getD 0 0) (held4 l xs gone) c
def roomB (l : Lm) (xs : List Q4) (gone : List Str) (g : Str) (c mo : Int) : Bool := !seesL l g || roomS l xs gone g c mo
/-! each word -/
theorem shr_uniq {s s' : Shr} : ∀ {sh : List Shr}, Asc (sh.map (·.1)) → s ∈ sh → s' ∈ sh → s.1 = s'.1 → s = s'
  | [], _, h, _, _ => nomatch h
  | x :: r, ha, h, h', e => by
    have ha2 := List.pairwise_cons.mp ha
    rcases List.mem_cons.mp h with z | z <;> rcases List.mem_cons.mp h' with z' | z'
    · rw [z, z']
    · have this : strLt x.1 s'.1 := ha2.1 s'.1 (List.mem_map.mpr ⟨s', z', rfl⟩)
      rw [← z, e] at this
      exact absurd this (List.lt_irrefl _)
    · have this : strLt x.1 s.1 := ha2.1 s.1 (List.mem_map.mpr ⟨s, z, rfl⟩)
      rw [← z', e] at this
      exact absurd this (List.lt_irrefl _)
    · exact shr_uniq ha2.2 z z' e
theorem ceil_is {sh : List Shr} {s : Shr} (ha : Asc (sh.map (·.1))) (h : s ∈ sh) : ceilG sh s.1 = s.2.2 := by
  unfold ceilG
  have hm : s ∈ sh.filter fun t => decide (t.1 = s.1) := List.mem_filter.mpr ⟨h, decide_eq_true rfl⟩
  cases e : sh.filter fun t => decide (t.1 = s.1) with
  | nil => rw [e] at hm; cases hm
  | cons x r =>
    have hx : x ∈ sh.filter fun t => decide (t.1 = s.1) := by rw [e]; exact List.mem_cons_self
    obtain ⟨h1, h2⟩ := List.mem_filter.mp hx
    have := shr_uniq ha h1 h (of_decide_eq_true h2)
    show x.2.2 = _
    rw [this]
/-! the words of a limit -/
theorem room_gap {l : Lm} {xs : List Q4} {gone : List Str} {g : Str} {c mo : Int} {ns : List Int} (hn : l.nu = .flat ns) (hw : l.wd = "gap") : roomS l xs gone g c mo = gapR (ns.getD 0 0) (seen4 l xs) mo := by
  unfold roomS
  rw [hn]
  show (if l.wd = "gap" then _ else _) = _
  rw [if_pos hw]
theorem room_win {l : Lm} {xs : List Q4} {gone : List Str} {g : Str} {c mo : Int} {ns : List Int} (hn : l.nu = .flat ns) (hw : l.wd = "window") : roomS l xs gone g c mo = winR (ns.getD 0 0) (ns.getD 1 0) (seen4 l xs) c mo := by
  unfold roomS
  rw [hn]
  show (if l.wd = "gap" then _ else _) = _
  rw [if_neg (by rw [hw]; decide +kernel), if_pos hw]
theorem room_span {l : Lm} {xs : List Q4} {gone : List Str} {g : Str} {c mo : Int} {ns : List Int} (hn : l.nu = .flat ns) (hw : l.wd = "span") : roomS l xs gone g c mo = spanR (ns.getD 0 0) (ns.getD 1 0) (seen4 l xs) c mo := by
  unfold roomS
  rw [hn]
  show (if l.wd = "gap" then _ else _) = _
  rw [if_neg (by rw [hw]; decide +kernel), if_neg (by rw [hw]; decide +kernel), if_pos hw]
theorem room_buck {l : Lm} {xs : List Q4} {gone : List Str} {g : Str} {c mo : Int} {ns : List Int} (hn : l.nu = .flat ns) (hw : l.wd = "bucket") : roomS l xs gone g c mo = buckR (ns.getD 0 0) (ns.getD 1 0) (seen4 l xs) c mo := by
  unfold roomS
  rw [hn]
  show (if l.wd = "gap" then _ else _) = _
  rw [if_neg (by rw [hw]; decide +kernel), if_neg (by rw [hw]; decide +kernel), if_neg (by rw [hw]; decide +kernel), if_pos hw]
theorem room_held {l : Lm} {xs : List Q4} {gone : List Str} {g : Str} {c mo : Int} {ns : List Int} (hn : l.nu = .flat ns) (hw : l.wd = "held") : roomS l xs gone g c mo = heldR (ns.getD 0 0) (held4 l xs gone) c := by
  unfold roomS
  rw [hn]
  show (if l.wd = "gap" then _ else _) = _
  rw [if_neg (by rw [hw]; decide +kernel), if_neg (by rw [hw]; decide +kernel), if_neg (by rw [hw]; decide +kernel), if_neg (by rw [hw]; decide +kernel)]
theorem room_pool {l : Lm} {xs : List Q4} {gone : List Str} {g : Str} {c mo m : Int} {sh : List Shr} (hn : l.nu = .pool m sh) : roomS l xs gone g c mo = poolR m sh (held4 l xs gone) g c := by
  unfold roomS
  rw [hn]
/-! ### t[::-1] of a tuple -/
def tRevT (K : PySem.W.Frag) (te : TE) : TE := fun σ H Q => te σ H fun x H1 => ∃ a xs, x = .ref a ∧ SqT K H1 a xs ∧ ∀ p, H1 p = none → Q (.ref p) (upd H1 p (.tup xs.reverse))
theorem g_revT {K : PySem.W.Frag} {te : TE} {σ : L2.St} {H : Hp} {Q : VK} (q : te σ H fun x H1 => ∃ a xs, x = .ref a ∧ SqT K H1 a xs ∧ ∀ p, H1 p = none → Q (.ref p) (upd H1 p (.tup xs.reverse))) : tRevT K te σ H Q := q
/-! ### room stays, and what it is far later: plain law -/
def FARI : Int := 10000000000000
theorem sum4_cons (q : Q4) (S : List Q4) : sum4 (q :: S) = q.2.2.1 + sum4 S := rfl
theorem sum4_nonneg : ∀ {S : List Q4}, (∀ q ∈ S, 0 ≤ q.2.2.1) → 0 ≤ sum4 S
  | [], _ => Int.le_refl _
  | q :: S, h => by
    have h1 := h q List.mem_cons_self
    have h2 := sum4_nonneg (S := S) fun x hx => h x (List.mem_cons_of_mem _ hx)
    rw [sum4_cons]
    omega
theorem sum4_sub {p p' : Q4 → Bool} : ∀ {S : List Q4}, (∀ q ∈ S, 0 ≤ q.2.2.1) → (∀ q ∈ S, p q = true → p' q = true) → sum4 (S.filter p) ≤ sum4 (S.filter p')
  | [], _, _ => Int.le_refl _
  | q :: S, h, hp => by
    have h1 := h q List.mem_cons_self
    have h2 := sum4_sub (p := p) (p' := p') (S := S) (fun x hx => h x (List.mem_cons_of_mem _ hx)) fun x hx => hp x (List.mem_cons_of_mem _ hx)
    have hq := hp q List.mem_cons_self
    by_cases hpq : p q = true
    · rw [List.filter_cons_of_pos hpq, List.filter_cons_of_pos (hq hpq), sum4_cons, sum4_cons]
      omega
    · rw [List.filter_cons_of_neg hpq]
      by_cases hpq' : p' q = true
      · rw [List.filter_cons_of_pos hpq', sum4_cons]
        omega
      · rw [List.filter_cons_of_neg hpq']
        exact h2
theorem sum4_filter {p : Q4 → Bool} {S : List Q4} (h : ∀ q ∈ S, 0 ≤ q.2.2.1) : sum4 (S.filter p) ≤ sum4 S := by
  have q := sum4_sub (p := p) (p' := fun _ => true) h fun _ _ _ => rfl
  rw [List.filter_eq_self.mpr (fun _ _ => rfl : ∀ a ∈ S, (fun _ : Q4 => true) a = true)] at q
  exact q
theorem win_mono {a b c t t' : Int} {S : List Q4} (hc : ∀ q ∈ S, 0 ≤ q.2.2.1) (h : t ≤ t') (hr : winR a b S c t = true) : winR a b S c t' = true := by
  unfold winR at *
  have h1 := of_decide_eq_true hr
  have h2 := sum4_sub (p := fun q => decide (q.2.2.2 > t' - b)) (p' := fun q => decide (q.2.2.2 > t - b)) hc fun q _ hq => by
    have := of_decide_eq_true hq
    exact decide_eq_true (by omega)
  exact decide_eq_true (by omega)
theorem span_mono {a b c t t' : Int} {S : List Q4} (hb : 1 ≤ b) (hc : ∀ q ∈ S, 0 ≤ q.2.2.1) (hm : ∀ q ∈ S, q.2.2.2 ≤ t) (h : t ≤ t') (hr : spanR a b S c t = true) : spanR a b S c t' = true := by
  unfold spanR at *
  have h1 := of_decide_eq_true hr
  have h2 := sum4_sub (p := fun q => decide (q.2.2.2 / b = t' / b)) (p' := fun q => decide (q.2.2.2 / b = t / b)) hc fun q hq1 hq => by
    have e := of_decide_eq_true hq
    have a1 := Int.ediv_le_ediv (by omega : 0 < b) (hm q hq1)
    have a2 := Int.ediv_le_ediv (by omega : 0 < b) h
    exact decide_eq_true (by omega)
  exact decide_eq_true (by omega)
theorem buck_mono {a b c t t' : Int} {S : List Q4} (hb : 1 ≤ b) (hc : ∀ q ∈ S, 0 ≤ q.2.2.1) (h : t ≤ t') (hr : buckR a b S c t = true) : buckR a b S c t' = true := by
  unfold buckR at *
  rw [List.all_eq_true] at *
  intro s hs
  refine decide_eq_true ?_
  rcases List.mem_append.mp hs with z | z
  · have := of_decide_eq_true (hr s (List.mem_append.mpr (.inl z)))
    omega
  · rw [List.mem_singleton.mp z]
    have h1 := of_decide_eq_true (hr t (List.mem_append.mpr (.inr List.mem_cons_self)))
    have h2 := sum4_sub (p := fun q => decide (q.2.2.2 ≥ t')) (p' := fun q => decide (q.2.2.2 ≥ t)) hc fun q _ hq => by
      have := of_decide_eq_true hq
      exact decide_eq_true (by omega)
    have h3 := Int.mul_le_mul_of_nonneg_left (show sum4 (S.filter fun q => decide (q.2.2.2 ≥ t')) + c ≤ sum4 (S.filter fun q => decide (q.2.2.2 ≥ t)) + c by omega) (show 0 ≤ b by omega)
    omega
theorem gap_mono {a t t' : Int} {S : List Q4} (h : t ≤ t') (hr : gapR a S t = true) : gapR a S t' = true := by
  unfold gapR at *
  rw [List.all_eq_true] at *
  intro q hq
  have := of_decide_eq_true (hr q hq)
  exact decide_eq_true (by omega)
/-- what is drawn before: costs and moments -/
def Past (xs : List Q4) (mo : Int) : Prop := ∀ q ∈ xs, 0 ≤ q.2.2.1 ∧ q.2.2.2 ≤ mo
theorem Past.seen {l : Lm} {xs : List Q4} {mo : Int} (h : Past xs mo) : Past (seen4 l xs) mo := fun q hq => h q (List.mem_filter.mp hq).1
theorem Past.held {l : Lm} {xs : List Q4} {gone : List Str} {mo : Int} (h : Past xs mo) : Past (held4 l xs gone) mo := fun q hq => h.seen q (List.mem_filter.mp hq).1
theorem room_mono {l : Lm} {xs : List Q4} {gone : List Str} {g : Str} {c mo t t' : Int} (hok : l.Ok) (hx : Past xs mo) (h1 : mo ≤ t) (h2 : t ≤ t') (hr : roomB l xs gone g c t = true) : roomB l xs gone g c t' = true := by
  unfold roomB at *
  cases hs : seesL l g with
  | false => rfl
  | true =>
    rw [hs, Bool.not_true, Bool.false_or] at hr
    rw [Bool.not_true, Bool.false_or]
    have hc : ∀ q ∈ seen4 l xs, 0 ≤ q.2.2.1 := fun q hq => (hx.seen q hq).1
    have hm : ∀ q ∈ seen4 l xs, q.2.2.2 ≤ t := fun q hq => by have := (hx.seen q hq).2; omega
    have o3 := hok.2.2
    cases hn : l.nu with
    | pool m sh =>
      rw [room_pool hn] at *
      exact hr
    | flat ns =>
      rw [hn] at o3
      rcases o3.1 with ⟨z, a, b, rfl, k1, k2, k3, k4⟩ | ⟨z, b, rfl, k1, k2⟩ | ⟨z, a, rfl, k1, k2⟩
      · rcases z with z | z | z
        · rw [room_win hn z] at *
          exact win_mono hc h2 hr
        · rw [room_span hn z] at *
          exact span_mono k3 hc hm h2 hr
        · rw [room_buck hn z] at *
          exact buck_mono k3 hc h2 hr
      · rw [room_gap hn z] at *
        exact gap_mono h2 hr
      · rw [room_held hn z] at *
        exact hr
def neverS (l : Lm) (xs : List Q4) (gone : List Str) (g : Str) (c : Int) : Bool := match l.nu with
  | .pool m sh => !poolR m sh (held4 l xs gone) g c
  | .flat ns => if l.wd = "gap" then false else if l.wd = "held" then !heldR (ns.getD 0 0) (held4 l xs gone) c else decide (c > ns.getD 0 0)
theorem filter_none {S : List Q4} {p : Q4 → Bool} (h : ∀ q ∈ S, p q = false) : S.filter p = [] := List.filter_eq_nil_iff.mpr fun q hq z => by rw [h q hq] at z; cases z
theorem le_not_gt (a b : Int) : decide (a ≤ b) = !decide (a > b) := by
  rw [← decide_not, Bool.eq_iff_iff, decide_eq_true_eq, decide_eq_true_eq, Int.not_lt]
theorem room_far {l : Lm} {xs : List Q4} {gone : List Str} {g : Str} {c mo : Int} (hok : l.Ok) (hx : Past xs mo) (hsum : sum4 xs ≤ 1000000) (hc0 : 0 ≤ c) (hc1 : c ≤ 1000) : roomS l xs gone g c (mo + FARI) = !neverS l xs gone g c := by
  have hF : FARI = 10000000000000 := rfl
  have hM : million = 1000000 := rfl
  have hc : ∀ q ∈ seen4 l xs, 0 ≤ q.2.2.1 := fun q hq => (hx.seen q hq).1
  have hm : ∀ q ∈ seen4 l xs, q.2.2.2 ≤ mo := fun q hq => (hx.seen q hq).2
  have hs1 : sum4 (seen4 l xs) ≤ 1000000 := Int.le_trans (sum4_filter fun q hq => (hx q hq).1) hsum
  have o3 := hok.2.2
  unfold neverS
  cases hn : l.nu with
  | pool m sh =>
    rw [room_pool hn]
    dsimp only
    rw [Bool.not_not]
  | flat ns =>
    rw [hn] at o3
    dsimp only
    rcases o3.1 with ⟨z, a, b, rfl, k1, k2, k3, k4⟩ | ⟨z, b, rfl, k1, k2⟩ | ⟨z, a, rfl, k1, k2⟩
    · rcases z with z | z | z
      · rw [room_win hn z, if_neg (by rw [z]; decide +kernel), if_neg (by rw [z]; decide +kernel)]
        unfold winR
        rw [filter_none fun q hq => decide_eq_false (by have := hm q hq; show ¬ q.2.2.2 > mo + FARI - b; omega), show sum4 [] = 0 from rfl, Int.zero_add]
        exact le_not_gt _ _
      · rw [room_span hn z, if_neg (by rw [z]; decide +kernel), if_neg (by rw [z]; decide +kernel)]
        unfold spanR
        rw [filter_none fun q hq => decide_eq_false (fun e => by
          have h1 := hm q hq
          have h2 : (q.2.2.2 + b) / b ≤ (mo + FARI) / b := Int.ediv_le_ediv (by omega) (by omega)
          have h3 : (q.2.2.2 + b) / b = q.2.2.2 / b + 1 := Int.add_ediv_of_dvd_right (Int.dvd_refl b) |>.trans (by rw [Int.ediv_self (by omega)])
          have e : q.2.2.2 / b = (mo + FARI) / b := e
          omega), show sum4 [] = 0 from rfl, Int.zero_add]
        exact le_not_gt _ _
      · rw [room_buck hn z, if_neg (by rw [z]; decide +kernel), if_neg (by rw [z]; decide +kernel)]
        rw [← le_not_gt, Bool.eq_iff_iff, decide_eq_true_eq]
        unfold buckR
        rw [List.all_eq_true]
        show (∀ s ∈ _, decide (b * _ ≤ a * b + (mo + FARI) - s) = true) ↔ c ≤ a
        have hlast : sum4 ((seen4 l xs).filter fun q => decide (q.2.2.2 ≥ mo + FARI)) = 0 := by
          rw [filter_none fun q hq => decide_eq_false (by have := hm q hq; omega)]
          rfl
        constructor
        · intro h
          have q := of_decide_eq_true (h _ (List.mem_append.mpr (.inr List.mem_cons_self)))
          rw [hlast, Int.zero_add, Int.mul_comm a b] at q
          exact Int.le_of_mul_le_mul_left (show b * c ≤ b * a by omega) (by omega)
        · intro h s hs
          refine decide_eq_true ?_
          rcases List.mem_append.mp hs with w | w
          · obtain ⟨q, hq, rfl⟩ := List.mem_map.mp w
            have h1 := hm q hq
            have h2 : sum4 ((seen4 l xs).filter fun q' => decide (q'.2.2.2 ≥ q.2.2.2)) ≤ 1000000 := Int.le_trans (sum4_filter hc) hs1
            have h3 := Int.mul_le_mul_of_nonneg_left (show sum4 ((seen4 l xs).filter fun q' => decide (q'.2.2.2 ≥ q.2.2.2)) + c ≤ 1001000 by omega) (show 0 ≤ b by omega)
            have h4 : 0 ≤ a * b := Int.mul_nonneg k1 (by omega)
            omega
          · rw [List.mem_singleton.mp w, hlast, Int.zero_add, Int.mul_comm a b]
            have h3 := Int.mul_le_mul_of_nonneg_left h (show 0 ≤ b by omega)
            omega
    · rw [room_gap hn z, if_pos z]
      unfold gapR
      rw [Bool.not_false, List.all_eq_true]
      intro q hq
      refine decide_eq_true ?_
      have := hm q hq
      show mo + FARI - q.2.2.2 ≥ b
      omega
    · rw [room_held hn z, if_neg (by rw [z]; decide +kernel), if_pos z, Bool.not_not]
theorem never_all {l : Lm} {xs : List Q4} {gone : List Str} {g : Str} {c mo t : Int} (hok : l.Ok) (hx : Past xs mo) (hn' : neverS l xs gone g c = true) : roomS l xs gone g c t = false := by
  have hc : ∀ q ∈ seen4 l xs, 0 ≤ q.2.2.1 := fun q hq => (hx.seen q hq).1
  have o3 := hok.2.2
  unfold neverS at hn'
  cases hn : l.nu with
  | pool m sh =>
    rw [hn] at hn'
    rw [room_pool hn]
    dsimp only at hn'
    rw [Bool.not_eq_true'] at hn'
    exact hn'
  | flat ns =>
    rw [hn] at o3 hn'
    dsimp only at hn'
    rcases o3.1 with ⟨z, a, b, rfl, k1, k2, k3, k4⟩ | ⟨z, b, rfl, k1, k2⟩ | ⟨z, a, rfl, k1, k2⟩
    · rcases z with z | z | z
      · rw [if_neg (by rw [z]; decide +kernel), if_neg (by rw [z]; decide +kernel)] at hn'
        have h1 : c > a := of_decide_eq_true hn'
        rw [room_win hn z]
        have := sum4_nonneg (S := (seen4 l xs).filter fun q => decide (q.2.2.2 > t - b)) fun q hq => hc q (List.mem_filter.mp hq).1
        refine decide_eq_false ?_
        show ¬ sum4 _ + c ≤ a
        simp only [List.getD_cons_succ, List.getD_cons_zero]
        omega
      · rw [if_neg (by rw [z]; decide +kernel), if_neg (by rw [z]; decide +kernel)] at hn'
        have h1 : c > a := of_decide_eq_true hn'
        rw [room_span hn z]
        have := sum4_nonneg (S := (seen4 l xs).filter fun q => decide (q.2.2.2 / b = t / b)) fun q hq => hc q (List.mem_filter.mp hq).1
        refine decide_eq_false ?_
        show ¬ sum4 _ + c ≤ a
        simp only [List.getD_cons_succ, List.getD_cons_zero]
        omega
      · rw [if_neg (by rw [z]; decide +kernel), if_neg (by rw [z]; decide +kernel)] at hn'
        have h1 : c > a := of_decide_eq_true hn'
        rw [room_buck hn z]
        unfold buckR
        cases e : List.all ((seen4 l xs).map (fun q => q.2.2.2) ++ [t]) _ with
        | false => rfl
        | true =>
          exfalso
          have q := of_decide_eq_true (List.all_eq_true.mp e t (List.mem_append.mpr (.inr List.mem_cons_self)))
          have h2 := sum4_nonneg (S := (seen4 l xs).filter fun q => decide (q.2.2.2 ≥ t)) fun q hq => hc q (List.mem_filter.mp hq).1
          have q : b * (sum4 ((seen4 l xs).filter fun q => decide (q.2.2.2 ≥ t)) + c) ≤ a * b + t - t := q
          have h3 := Int.mul_lt_mul_of_pos_left (show a < sum4 ((seen4 l xs).filter fun q => decide (q.2.2.2 ≥ t)) + c by omega) (show 0 < b by omega)
          rw [Int.mul_comm b a] at h3
          omega
    · rw [if_pos z] at hn'
      cases hn'
    · rw [if_neg (by rw [z]; decide +kernel), if_pos z, Bool.not_eq_true'] at hn'
      rw [room_held hn z]
      exact hn'
/-! ### the soonest moment -/
def IsSoon (f : Int → Bool) (mo : Int) : Option Int → Prop
  | none => f (mo + FARI) = true
  | some e => mo ≤ e ∧ e ≤ mo + FARI ∧ f e = false ∧ ∀ u, mo ≤ u → u < e → f u = true
def Falls (f : Int → Bool) (mo : Int) : Prop := ∀ t t', mo ≤ t → t ≤ t' → f t' = true → f t = true
/-- the bounds of a search by halves -/
structure Halves (f : Int → Bool) (mo lo hi : Int) : Prop where
  le : lo ≤ hi
  low : mo ≤ lo
  top : hi ≤ mo + FARI
  free : f hi = false
  full : ∀ u, mo ≤ u → u < lo → f u = true
theorem Halves.up {f : Int → Bool} {mo lo hi : Int} (h : Halves f mo lo hi) (hf : Falls f mo) (hl : lo < hi) (hb : f ((lo + hi) / 2) = true) : Halves f mo ((lo + hi) / 2 + 1) hi := by
  have h1 := h.low
  refine ⟨by omega, by omega, h.top, h.free, fun u h2 h3 => hf u _ h2 (by omega) hb⟩
theorem Halves.done {f : Int → Bool} {mo lo hi : Int} (h : Halves f mo lo hi) (hl : ¬ lo < hi) : IsSoon f mo (some lo) := by
  have h0 := h.le
  have e : lo = hi := by omega
  have h1 := h.free
  rw [← e] at h1
  have h2 := h.top
  exact ⟨h.low, by omega, h1, h.full⟩
/-- what the law asks of an earliest moment -/
theorem soon_asked {f : Int → Bool} {mo e : Int} (hf : Falls f mo) (hfar : f (mo + FARI) = true → ∀ t, mo ≤ t → f t = true) : IsSoon f mo (some e) ↔ mo ≤ e ∧ f e = false ∧ (e = mo ∨ f (e - 1) = true) := by
  constructor
  · rintro ⟨h1, h2, h3, h4⟩
    refine ⟨h1, h3, ?_⟩
    by_cases h : e = mo
    · exact .inl h
    · exact .inr (h4 _ (by omega) (by omega))
  · rintro ⟨h1, h3, h4⟩
    have hfull : ∀ u, mo ≤ u → u < e → f u = true := fun u h5 h6 => by
      rcases h4 with z | z
      · omega
      · exact hf u _ h5 (by omega) z
    refine ⟨h1, ?_, h3, hfull⟩
    by_cases h : e ≤ mo + FARI
    · exact h
    · have h5 := hfull (mo + FARI) (by unfold FARI; omega) (by omega)
      have := hfar h5 e h1
      rw [h3] at this
      cases this
/-! what is lacking -/
def lackOf (ls : List (Addr × Lm)) (xs : List Q4) (gone : List Str) (g : Str) (c t : Int) : List Str := sortS ((ls.filter fun x => !roomB x.2 xs gone g c t).map lN)
def lackB (ls : List (Addr × Lm)) (xs : List Q4) (gone : List Str) (g : Str) (c t : Int) : Bool := ls.any fun x => !roomB x.2 xs gone g c t
theorem sortS_len (xs : List Str) : (sortS xs).length = xs.length := List.length_mergeSort ..
theorem lack_len {ls : List (Addr × Lm)} {xs : List Q4} {gone : List Str} {g : Str} {c t : Int} : (lackOf ls xs gone g c t).length ≤ ls.length := by
  unfold lackOf
  rw [sortS_len, List.length_map]
  exact List.length_filter_le _ _
theorem lack_pos {ls : List (Addr × Lm)} {xs : List Q4} {gone : List Str} {g : Str} {c t : Int} : decide (0 < (lackOf ls xs gone g c t).length) = lackB ls xs gone g c t := by
  unfold lackOf lackB
  rw [sortS_len, List.length_map, Bool.eq_iff_iff, decide_eq_true_eq, List.any_eq_true]
  constructor
  · intro h
    obtain ⟨x, hx⟩ := List.exists_mem_of_length_pos h
    exact ⟨x, (List.mem_filter.mp hx).1, (List.mem_filter.mp hx).2⟩
  · rintro ⟨x, h1, h2⟩
    exact List.length_pos_of_mem (List.mem_filter.mpr ⟨h1, h2⟩)
theorem lack_falls {ls : List (Addr × Lm)} {xs : List Q4} {gone : List Str} {g : Str} {c mo : Int} (hok : ∀ x ∈ ls, x.2.Ok) (hx : Past xs mo) : Falls (lackB ls xs gone g c) mo := fun t t' h1 h2 h => by
  unfold lackB at *
  obtain ⟨x, hx1, hx2⟩ := List.any_eq_true.mp h
  refine List.any_eq_true.mpr ⟨x, hx1, ?_⟩
  cases hr : roomB x.2 xs gone g c t with
  | false => rfl
  | true =>
    rw [room_mono (hok x hx1) hx h1 h2 hr] at hx2
    exact hx2
def neverB (ls : List (Addr × Lm)) (xs : List Q4) (gone : List Str) (g : Str) (c : Int) : Bool := ls.any fun x => seesL x.2 g && neverS x.2 xs gone g c
theorem lack_far {ls : List (Addr × Lm)} {xs : List Q4} {gone : List Str} {g : Str} {c mo : Int} (hok : ∀ x ∈ ls, x.2.Ok) (hx : Past xs mo) (hsum : sum4 xs ≤ 1000000) (hc0 : 0 ≤ c) (hc1 : c ≤ 1000) : lackB ls xs gone g c (mo + FARI) = neverB ls xs gone g c := by
  unfold lackB neverB
  rw [Bool.eq_iff_iff, List.any_eq_true, List.any_eq_true]
  have e : ∀ x ∈ ls, (!roomB x.2 xs gone g c (mo + FARI)) = (seesL x.2 g && neverS x.2 xs gone g c) := fun x hx1 => by
    unfold roomB
    rw [room_far (hok x hx1) hx hsum hc0 hc1, Bool.not_or, Bool.not_not, Bool.not_not]
  constructor
  · rintro ⟨x, h1, h2⟩
    exact ⟨x, h1, by rw [← e x h1]; exact h2⟩
  · rintro ⟨x, h1, h2⟩
    exact ⟨x, h1, by rw [e x h1]; exact h2⟩
theorem lack_never {ls : List (Addr × Lm)} {xs : List Q4} {gone : List Str} {g : Str} {c mo t : Int} (hok : ∀ x ∈ ls, x.2.Ok) (hx : Past xs mo) (h : neverB ls xs gone g c = true) : lackB ls xs gone g c t = true := by
  unfold lackB neverB at *
  obtain ⟨x, h1, h2⟩ := List.any_eq_true.mp h
  rw [Bool.and_eq_true] at h2
  refine List.any_eq_true.mpr ⟨x, h1, ?_⟩
  unfold roomB
  rw [h2.1, never_all (hok x h1) hx h2.2]
  rfl
theorem Past.mono {xs : List Q4} {mo mo' : Int} (h : Past xs mo) (hm : mo ≤ mo') : Past xs mo' := fun q hq => ⟨(h q hq).1, Int.le_trans (h q hq).2 hm⟩
theorem sum4_le : ∀ {xs : List Q4}, (∀ q ∈ xs, q.2.2.1 ≤ 1000) → sum4 xs ≤ 1000 * (xs.length : Int)
  | [], _ => Int.le_refl _
  | q :: S, h => by
    have h1 := h q List.mem_cons_self
    have h2 := sum4_le (xs := S) fun x hx => h x (List.mem_cons_of_mem _ hx)
    rw [sum4_cons, List.length_cons]
    omega
theorem len_pos (zs : List Str) : decide ((0 : Int) < ((zs.map V.str).length : Int)) = decide (0 < zs.length) := by
  rw [List.length_map, Bool.eq_iff_iff, decide_eq_true_eq, decide_eq_true_eq]
  omega
theorem lm_gap {l : Lm} (hok : l.Ok) (hw : l.wd = "gap") : ∃ a : Int, l.nu = .flat [a] := by
  have o3 := hok.2.2
  cases hn : l.nu with
  | pool m sh => rw [hn] at o3; have z := o3.1; rw [hw] at z; exact absurd z (by decide +kernel)
  | flat ns =>
    rw [hn] at o3
    rcases o3.1 with ⟨z, a, b, rfl, _⟩ | ⟨z, b, rfl, _⟩ | ⟨z, a, rfl, _⟩
    · rw [hw] at z; rcases z with z | z | z <;> exact absurd z (by decide +kernel)
    · exact ⟨_, rfl⟩
    · rw [hw] at z; exact absurd z (by decide +kernel)
theorem lm_held {l : Lm} (hok : l.Ok) (hw : l.wd = "held") : ∃ a : Int, l.nu = .flat [a] := by
  have o3 := hok.2.2
  cases hn : l.nu with
  | pool m sh => rw [hn] at o3; have z := o3.1; rw [hw] at z; exact absurd z (by decide +kernel)
  | flat ns =>
    rw [hn] at o3
    rcases o3.1 with ⟨z, a, b, rfl, _⟩ | ⟨z, b, rfl, _⟩ | ⟨z, a, rfl, _⟩
    · rw [hw] at z; rcases z with z | z | z <;> exact absurd z (by decide +kernel)
    · rw [hw] at z; exact absurd z (by decide +kernel)
    · exact ⟨_, rfl⟩
theorem lm_two {l : Lm} (hok : l.Ok) (hw : l.wd = "window" ∨ l.wd = "span" ∨ l.wd = "bucket") : ∃ a b : Int, l.nu = .flat [a, b] ∧ 0 ≤ a ∧ a ≤ million ∧ 1 ≤ b ∧ b ≤ million := by
  have o3 := hok.2.2
  cases hn : l.nu with
  | pool m sh => rw [hn] at o3; have z := o3.1; rw [z] at hw; rcases hw with hw | hw | hw <;> exact absurd hw (by decide +kernel)
  | flat ns =>
    rw [hn] at o3
    rcases o3.1 with ⟨z, a, b, rfl, h⟩ | ⟨z, b, rfl, _⟩ | ⟨z, a, rfl, _⟩
    · exact ⟨_, _, rfl, h⟩
    · rw [z] at hw; rcases hw with hw | hw | hw <;> exact absurd hw (by decide +kernel)
    · rw [z] at hw; rcases hw with hw | hw | hw <;> exact absurd hw (by decide +kernel)
theorem lm_else {l : Lm} (hok : l.Ok) (h1 : l.wd ≠ "gap") (h2 : l.wd ≠ "window") (h3 : l.wd ≠ "span") (h4 : l.wd ≠ "bucket") (h5 : l.wd ≠ "held") : ∃ (m : Int) (sh : List Shr), l.nu = .pool m sh ∧ sh.length ≤ 8 := by
  have o3 := hok.2.2
  cases hn : l.nu with
  | pool m sh => rw [hn] at o3; obtain ⟨_, _, _, h, _⟩ := o3; exact ⟨_, _, rfl, by omega⟩
  | flat ns =>
    rw [hn] at o3
    rcases o3.1 with ⟨z, _⟩ | ⟨z, _⟩ | ⟨z, _⟩
    · rcases z with z | z | z
      · exact absurd z h2
      · exact absurd z h3
      · exact absurd z h4
    · exact absurd z h1
    · exact absurd z h5
theorem never_hp {l : Lm} {xs : List Q4} {gone : List Str} {g : Str} {c mo : Int} (hok : l.Ok) (h : l.wd = "held" ∨ l.wd = "pool") : neverS l xs gone g c = !roomS l xs gone g c mo := by
  have o3 := hok.2.2
  unfold neverS
  cases hn : l.nu with
  | pool m sh => rw [room_pool hn]
  | flat ns =>
    rw [hn] at o3
    have hw : l.wd = "held" := by
      rcases h with h | h
      · exact h
      · rcases o3.1 with ⟨z, _⟩ | ⟨z, _⟩ | ⟨z, _⟩
        · rw [h] at z; rcases z with z | z | z <;> exact absurd z (by decide +kernel)
        · rw [h] at z; exact absurd z (by decide +kernel)
        · exact z
    rw [room_held hn hw]
    dsimp only
    rw [if_neg (by rw [hw]; decide +kernel), if_pos hw]
theorem never_gap {l : Lm} {xs : List Q4} {gone : List Str} {g : Str} {c : Int} (hok : l.Ok) (h : l.wd = "gap") : neverS l xs gone g c = false := by
  obtain ⟨a, hn⟩ := lm_gap hok h
  unfold neverS
  rw [hn]
  dsimp only
  rw [if_pos h]
theorem never_two {l : Lm} {xs : List Q4} {gone : List Str} {g : Str} {c : Int} (hok : l.Ok) (h1 : l.wd ≠ "gap") (h2 : l.wd ≠ "held") (h3 : l.wd ≠ "pool") : ∃ a b : Int, l.nu = .flat [a, b] ∧ neverS l xs gone g c = decide (c > a) := by
  have o3 := hok.2.2
  cases hn : l.nu with
  | pool m sh => rw [hn] at o3; exact absurd o3.1 h3
  | flat ns =>
    rw [hn] at o3
    rcases o3.1 with ⟨z, a, b, rfl, _⟩ | ⟨z, _⟩ | ⟨z, _⟩
    · refine ⟨a, b, rfl, ?_⟩
      unfold neverS
      rw [hn]
      dsimp only
      rw [if_neg h1, if_neg h2]
      rfl
    · exact absurd z h1
    · exact absurd z h2
theorem never_step {ls : List (Addr × Lm)} {xs : List Q4} {gone : List Str} {g : Str} {c : Int} {i : Nat} {x : Addr × Lm} (hi : ls[i]? = some x) (h : neverB (ls.take i) xs gone g c = false) (hx : (seesL x.2 g && neverS x.2 xs gone g c) = false) : neverB (ls.take (i + 1)) xs gone g c = false := by
  unfold neverB at *
  rw [List.take_add_one, hi, List.any_append, h]
  show (false || ((seesL x.2 g && neverS x.2 xs gone g c) || false)) = false
  rw [hx]
  rfl
theorem never_hit {ls : List (Addr × Lm)} {xs : List Q4} {gone : List Str} {g : Str} {c : Int} {x : Addr × Lm} (hi : x ∈ ls) (hx : (seesL x.2 g && neverS x.2 xs gone g c) = true) : neverB ls xs gone g c = true := List.any_eq_true.mpr ⟨x, hi, hx⟩
theorem w_thnB {b : Bool} {t : TS} {D : Ends} {σ : L2.St} {H : Hp} (W : L2.St → Hp → Prop) (h1 : b = true → ∀ D' : Ends, (∀ σ' H', W σ' H' → D'.nx σ' H') → t D' σ H) (h0 : b = false → W σ H) (hk : ∀ σ' H', W σ' H' → D.nx σ' H') :
    if b = true then t D σ H else tNext D σ H := w_ite (fun h => h1 h D hk) (fun h => hk _ _ (h0 h))
/-! ### what some requests that are let in fill: plain law -/
/-! ### rooms and papers -/
/-- d[y] += v -/
theorem g_daug {td ty tv : TE} {rd : V → V → Hp → VK → Prop} {D : Ends} {σ : L2.St} {H : Hp} (q : td σ H fun x H1 => ty σ H1 fun y H2 => ∃ a v, x = .ref a ∧ DGet H2 a y (some v) ∧ tv σ H2 fun y2 H3 => rd v y2 H3 fun z H4 => ∃ H5, DPut H4 a y z H5 ∧ D.nx σ H5) : sDAug td ty tv rd D σ H := q
theorem lack_mem {ls : List (Addr × Lm)} {xs : List Q4} {gone : List Str} {g : Str} {c t : Int} {z : Str} : z ∈ lackOf ls xs gone g c t ↔ ∃ x ∈ ls, roomB x.2 xs gone g c t = false ∧ lN x = z := by
  unfold lackOf
  rw [(sortS_perm _).mem_iff, List.mem_map]
  constructor
  · rintro ⟨x, hx, rfl⟩
    obtain ⟨h1, h2⟩ := List.mem_filter.mp hx
    exact ⟨x, h1, (Bool.not_eq_true' _).mp h2, rfl⟩
  · rintro ⟨x, h1, h2, rfl⟩
    exact ⟨x, List.mem_filter.mpr ⟨h1, by rw [h2]; rfl⟩, rfl⟩
/-! ### buckets: plain law -/
def fromB (a : Int) (rs : List MC) : Int := ((rs.filter fun r => decide (r.1 ≥ a)).map (·.2)).sum
theorem fromB_snoc (a : Int) (rs : List MC) (m c : Int) : fromB a (rs ++ [(m, c)]) = fromB a rs + if m ≥ a then c else 0 := by
  unfold fromB
  rw [List.filter_append, List.map_append, List.sum_append]
  by_cases h : m ≥ a
  · rw [List.filter_cons_of_pos (by rw [decide_eq_true h]), if_pos h]
    simp
  · rw [List.filter_cons_of_neg (by rw [decide_eq_false h]; decide), if_neg h]
    simp
theorem fromB_nn {a : Int} {rs : List MC} (h : ∀ r ∈ rs, 0 ≤ r.2) : 0 ≤ fromB a rs := by
  unfold fromB
  have key : ∀ l : List Int, (∀ x ∈ l, 0 ≤ x) → 0 ≤ l.sum := by
    intro l
    induction l with
    | nil => intro _; exact Int.le_refl _
    | cons x r ih =>
      intro h
      have h1 := h x (.head _)
      have h2 := ih fun y hy => h y (.tail _ hy)
      rw [List.sum_cons]
      omega
  refine key _ fun x hx => ?_
  obtain ⟨r, hr, rfl⟩ := List.mem_map.mp hx
  exact h r (List.mem_filter.mp hr).1
/-- what the meter keeps: missing at the moment of the last row -/
structure KeepB (e mo mi at_ : Int) (rs : List MC) : Prop where
  nn : 0 ≤ mi
  up : ∀ f ∈ rs, e * fromB f.1 rs - (at_ - f.1) ≤ mi
  ex : mi = 0 ∨ ∃ f ∈ rs, mi = e * fromB f.1 rs - (at_ - f.1)
  all : ∀ r ∈ rs, r.1 ≤ at_
  cs : ∀ r ∈ rs, 0 ≤ r.2
  le : at_ ≤ mo
def missB (mi at_ m : Int) : Int := if mi - (m - at_) > 0 then mi - (m - at_) else 0
theorem KeepB.later {e mo m mi at_ : Int} {rs : List MC} (k : KeepB e mo mi at_ rs) (h : mo ≤ m) : KeepB e m mi at_ rs := ⟨k.nn, k.up, k.ex, k.all, k.cs, Int.le_trans k.le h⟩
theorem KeepB.snoc {e mo m c mi at_ : Int} {rs : List MC} (k : KeepB e mo mi at_ rs) (h : mo ≤ m) (hc : 0 ≤ c) (he : 0 ≤ e) : KeepB e m (missB mi at_ m + e * c) m (rs ++ [(m, c)]) := by
  have hle : ∀ r ∈ rs, r.1 ≤ m := fun r hr => by have := k.all r hr; have := k.le; omega
  have hec : 0 ≤ e * c := Int.mul_nonneg he hc
  have h0 : 0 ≤ missB mi at_ m := by unfold missB; split <;> omega
  have hfr : ∀ f ∈ rs, fromB f.1 (rs ++ [(m, c)]) = fromB f.1 rs + c := fun f hf => by rw [fromB_snoc, if_pos (hle f hf)]
  have hnew : fromB m (rs ++ [(m, c)]) = fromB m rs + c := by rw [fromB_snoc, if_pos (Int.le_refl _)]
  have hmiss : e * fromB m rs ≤ missB mi at_ m := by
    by_cases hex : ∃ r ∈ rs, r.1 = m
    · obtain ⟨r, hr, er⟩ := hex
      have h2 := k.up r hr
      rw [er] at h2
      unfold missB; split <;> omega
    · have hz : fromB m rs = 0 := by
        unfold fromB
        have e1 : (rs.filter fun r => decide (r.1 ≥ m)) = [] := by
          rw [List.filter_eq_nil_iff]
          intro r hr
          have := hle r hr
          rw [decide_eq_true_eq]
          intro hge
          exact hex ⟨r, hr, by omega⟩
        rw [e1]; rfl
      rw [hz, Int.mul_zero]; exact h0
  refine ⟨by omega, fun f hf => ?_, ?_, fun r hr => ?_, fun r hr => ?_, Int.le_refl _⟩
  · rcases List.mem_append.mp hf with hf | hf
    · rw [hfr f hf, Int.mul_add]
      have h2 := k.up f hf
      unfold missB at *
      split <;> omega
    · rw [List.mem_singleton] at hf
      rw [hf, hnew, Int.mul_add]
      show e * fromB m rs + e * c - (m - m) ≤ _
      omega
  · right
    by_cases hp : mi - (m - at_) > 0
    · rcases k.ex with e0 | ⟨f, hf, e0⟩
      · have := k.le; omega
      · refine ⟨f, List.mem_append_left _ hf, ?_⟩
        rw [hfr f hf, Int.mul_add]
        unfold missB
        rw [if_pos hp]
        omega
    · refine ⟨(m, c), List.mem_append_right _ (.head _), ?_⟩
      rw [hnew, Int.mul_add]
      have hn : 0 ≤ e * fromB m rs := Int.mul_nonneg he (fromB_nn k.cs)
      unfold missB at hmiss ⊢
      rw [if_neg hp] at hmiss ⊢
      show _ = e * fromB m rs + e * c - (m - m)
      omega
  · rcases List.mem_append.mp hr with hr | hr
    · exact hle r hr
    · rw [List.mem_singleton] at hr; rw [hr]; exact Int.le_refl _
  · rcases List.mem_append.mp hr with hr | hr
    · exact k.cs r hr
    · rw [List.mem_singleton] at hr; rw [hr]; exact hc
def earlB (s e u c m : Int) : Option Int := if u + e * c - s * e ≤ 0 then some m else if c > s then none else some (m + (u + e * c - s * e))
section
variable {s e m mo c mi at_ : Int} {rs : List MC} {ys : List Int}
theorem le_mul_of {e c s : Int} (he : 1 ≤ e) (h : c ≤ s) : e * c ≤ s * e := by
  rw [Int.mul_comm s e]
  exact Int.mul_le_mul_of_nonneg_left h (by omega)
theorem miss_nn (mi at_ m : Int) : 0 ≤ missB mi at_ m := by unfold missB; split <;> omega
theorem miss_ge (mi at_ m : Int) : mi - (m - at_) ≤ missB mi at_ m := by unfold missB; split <;> omega
end
/-! the meter's fields -/
def flB (lim : Addr) (s e mi at_ : Int) : List (Str × V) := [("limit", .ref lim), ("_size", .int s), ("_every", .int e), ("_missing", .int mi), ("_moment", .int at_)]
theorem flB_mo (lim : Addr) (s e mi at_ x : Int) : putF "_moment" (.int x) (flB lim s e mi at_) = flB lim s e mi x := by
  unfold flB
  rw [putF_miss (by decide +kernel), putF_miss (by decide +kernel), putF_miss (by decide +kernel), putF_miss (by decide +kernel), putF_hit]
theorem flB_mi (lim : Addr) (s e mi at_ x : Int) : putF "_missing" (.int x) (flB lim s e mi at_) = flB lim s e x at_ := by
  unfold flB
  rw [putF_miss (by decide +kernel), putF_miss (by decide +kernel), putF_miss (by decide +kernel), putF_hit]
theorem flB_new (lim : Addr) (s e : Int) : putF "_moment" (.int 0) (putF "_missing" (.int 0) (putF "_every" (.int e) (putF "_size" (.int s) (putF "limit" (.ref lim) [])))) = flB lim s e 0 0 := by
  have a1 : putF "limit" (.ref lim) [] = [(("limit" : Str), V.ref lim)] := rfl
  have a2 : putF "_size" (.int s) [(("limit" : Str), V.ref lim)] = [(("limit" : Str), V.ref lim), ("_size", .int s)] := by
    rw [putF_miss (by decide +kernel)]; rfl
  have a3 : putF "_every" (.int e) [(("limit" : Str), V.ref lim), ("_size", .int s)] = [(("limit" : Str), V.ref lim), ("_size", .int s), ("_every", .int e)] := by
    rw [putF_miss (by decide +kernel), putF_miss (by decide +kernel)]; rfl
  have a4 : putF "_missing" (.int 0) [(("limit" : Str), V.ref lim), ("_size", .int s), ("_every", .int e)] = [(("limit" : Str), V.ref lim), ("_size", .int s), ("_every", .int e), ("_missing", .int 0)] := by
    rw [putF_miss (by decide +kernel), putF_miss (by decide +kernel), putF_miss (by decide +kernel)]; rfl
  rw [a1, a2, a3, a4, putF_miss (by decide +kernel), putF_miss (by decide +kernel), putF_miss (by decide +kernel), putF_miss (by decide +kernel)]
  rfl
/-! ### meters of all words against the definitions: plain law -/
def hist (S : List Q4) : List MC := S.map fun q => (q.2.2.2, q.2.2.1)
theorem hist_snoc (S : List Q4) (q : Q4) : hist (S ++ [q]) = hist S ++ [(q.2.2.2, q.2.2.1)] := by unfold hist; rw [List.map_append]; rfl
theorem hist_mem {S : List Q4} {r : MC} (h : r ∈ hist S) : ∃ q ∈ S, r = (q.2.2.2, q.2.2.1) := by
  obtain ⟨q, hq, rfl⟩ := List.mem_map.mp h
  exact ⟨q, hq, rfl⟩
theorem hist_sum (S : List Q4) (p : Int → Bool) : (((hist S).filter fun r => p r.1).map (·.2)).sum = sum4 (S.filter fun q => p q.2.2.2) := by
  unfold hist sum4
  rw [List.filter_map, List.map_map]
  rfl
theorem since_hist (b t : Int) (S : List Q4) : sinceW b t (hist S) = sum4 (S.filter fun q => decide (q.2.2.2 > t - b)) := hist_sum S fun z => decide (z > t - b)
theorem at_hist (b k : Int) (S : List Q4) : atS b k (hist S) = sum4 (S.filter fun q => decide (q.2.2.2 / b = k)) := hist_sum S fun z => decide (z / b = k)
theorem from_hist (z : Int) (S : List Q4) : fromB z (hist S) = sum4 (S.filter fun q => decide (q.2.2.2 ≥ z)) := hist_sum S fun x => decide (x ≥ z)
/-- what an earliest moment has to be, for one limit -/
def EarlOk (f : Int → Bool) (never : Prop) (t : Int) : Option Int → Prop
  | none => never
  | some e => t ≤ e ∧ f e = true ∧ (e = t ∨ f (e - 1) = false)
section
variable {S : List Q4} {a b c t mo : Int}
/-! window -/
theorem win_meter {ps : List MC} (k : KeepW b mo ps (hist S)) (ht : mo ≤ t) : decide (sumC (live b t ps) + c ≤ a) = winR a b S c t := by
  unfold winR
  rw [← since_hist, ← k.eq t ht]
  rfl
theorem win_earl {ps : List MC} (k : KeepW b mo ps (hist S)) (ht : mo ≤ t) (hb : 1 ≤ b) (hc : ∀ r ∈ ps, 0 ≤ r.2) : EarlOk (winR a b S c) (c > a) t (earlW a b c t (live b t ps)) := by
  have hroom : ∀ u, t ≤ u → winR a b S c u = decide (sinceW b u (live b t ps) + c ≤ a) := fun u hu => by
    rw [← win_meter k (Int.le_trans ht hu)]
    have e : sumC (live b u ps) = sinceW b u (live b t ps) := by
      rw [live_since hu]
      rfl
    rw [e]
  have hrc : ∀ r ∈ live b t ps, 0 ≤ r.2 := fun r hr => hc r (List.mem_filter.mp hr).1
  have hrt : ∀ r ∈ live b t ps, r.1 > t - b := fun r hr => of_decide_eq_true (List.mem_filter.mp hr).2
  have hinc : (live b t ps).Pairwise fun x y => x.1 < y.1 := live_inc k.inc
  have hself : winR a b S c t = decide (sumC (live b t ps) + c ≤ a) := (win_meter k ht).symm
  unfold earlW
  generalize live b t ps = rows at *
  by_cases h1 : sumC rows + c ≤ a
  · rw [if_pos h1]
    exact ⟨Int.le_refl _, by rw [hself]; exact decide_eq_true h1, .inl rfl⟩
  · rw [if_neg h1]
    by_cases h2 : c > a
    · rw [if_pos h2]
      exact h2
    · rw [if_neg h2]
      obtain ⟨pre, r, post, e1, e2, e3, e4⟩ := gone_spec (by omega) rows 0 h1
      rw [e2]
      subst e1
      have hr := hrt r (List.mem_append.mpr (.inr List.mem_cons_self))
      obtain ⟨p1, p2, p3⟩ := List.pairwise_append.mp hinc
      obtain ⟨p4, _⟩ := List.pairwise_cons.mp p2
      have hpre : ∀ x ∈ pre, x.1 < r.1 := fun x hx => p3 x hx r List.mem_cons_self
      refine ⟨by omega, ?_, .inr ?_⟩
      · rw [hroom _ (by omega), since_app, since_none (fun x hx => by have := hpre x hx; omega), Int.zero_add]
        have e5 : sinceW b (r.1 + b) (r :: post) = sumC post := by
          have e6 : sinceW b (r.1 + b) (r :: post) = sinceW b (r.1 + b) ([r] ++ post) := rfl
          rw [e6, since_app, since_none (fun x hx => by rw [List.mem_singleton.mp hx]; omega), since_all (fun x hx => by have := p4 x hx; omega), Int.zero_add]
        rw [e5]
        exact decide_eq_true e3
      · rw [hroom _ (by omega), since_app, since_none (fun x hx => by have := hpre x hx; omega), Int.zero_add, since_all (fun x hx => by
          rcases List.mem_cons.mp hx with z | z
          · rw [z]; omega
          · have := p4 x z; omega)]
        exact decide_eq_false e4
/-! span -/
theorem span_meter {sp us : Int} (k : KeepS b mo sp us (hist S)) (hb : 1 ≤ b) (ht : mo ≤ t) : decide (usedS b sp us t + c ≤ a) = spanR a b S c t := by
  unfold spanR
  rw [k.used hb ht, at_hist]
theorem span_earl {sp us : Int} (k : KeepS b mo sp us (hist S)) (hb : 1 ≤ b) (ht : mo ≤ t) (hm : ∀ q ∈ S, q.2.2.2 ≤ mo) : EarlOk (spanR a b S c) (c > a) t (earlS a b (usedS b sp us t) c t) := by
  unfold earlS
  by_cases h1 : usedS b sp us t + c ≤ a
  · rw [if_pos h1]
    exact ⟨Int.le_refl _, by rw [← span_meter k hb ht]; exact decide_eq_true h1, .inl rfl⟩
  · rw [if_neg h1]
    by_cases h2 : c > a
    · rw [if_pos h2]; exact h2
    · rw [if_neg h2]
      obtain ⟨n1, n2⟩ := next_span (m := t) hb
      refine ⟨by omega, ?_, .inr ?_⟩
      · unfold spanR
        rw [n1, filter_none fun q hq => decide_eq_false (fun e => by
          have h3 := Int.ediv_le_ediv (by omega : 0 < b) (Int.le_trans (hm q hq) ht)
          omega), show sum4 [] = 0 from rfl, Int.zero_add]
        exact decide_eq_true (by omega)
      · have h3 : ((t / b + 1) * b - 1) / b = t / b := by
          have h4 := (Int.le_ediv_iff_mul_le (by omega : 0 < b) (a := t / b) (b := (t / b + 1) * b - 1)).mpr (by rw [Int.add_mul, Int.one_mul]; omega)
          have h5 := (Int.ediv_lt_iff_lt_mul (by omega : 0 < b) (a := (t / b + 1) * b - 1) (b := t / b + 1)).mpr (by omega)
          omega
        have h6 := span_meter (a := a) (c := c) k hb ht
        unfold spanR at *
        rw [h3, ← h6]
        exact decide_eq_false h1
/-! bucket -/
theorem buck_meter {mi at_ : Int} (k : KeepB b mo mi at_ (hist S)) (hb : 1 ≤ b) (ht : mo ≤ t) : decide (missB mi at_ t + b * c - a * b ≤ 0) = buckR a b S c t := by
  have hle := k.le
  have hz : ∀ x y : Int, b * (x + y) = b * x + b * y := fun x y => Int.mul_add b x y
  rw [Bool.eq_iff_iff, decide_eq_true_eq]
  unfold buckR
  rw [List.all_eq_true]
  constructor
  · intro h s hs
    refine decide_eq_true ?_
    have hfrom : ∀ f ∈ hist S, b * (sum4 (S.filter fun q => decide (q.2.2.2 ≥ f.1)) + c) ≤ a * b + t - f.1 := fun f hf => by
      have h1 := k.up f hf
      rw [from_hist] at h1
      have h2 := miss_ge mi at_ t
      rw [hz]
      omega
    rcases List.mem_append.mp hs with w | w
    · obtain ⟨q, hq, rfl⟩ := List.mem_map.mp w
      exact hfrom (q.2.2.2, q.2.2.1) (List.mem_map.mpr ⟨q, hq, rfl⟩)
    · rw [List.mem_singleton.mp w]
      by_cases he : ∃ q ∈ S, q.2.2.2 ≥ t
      · obtain ⟨q, hq, hqt⟩ := he
        have hqm : (q.2.2.2, q.2.2.1) ∈ hist S := List.mem_map.mpr ⟨q, hq, rfl⟩
        have h1 : q.2.2.2 ≤ at_ := k.all _ hqm
        have e : q.2.2.2 = t := by omega
        have := hfrom _ hqm
        rw [show ((q.2.2.2, q.2.2.1) : MC).1 = t from e] at this
        exact this
      · rw [filter_none fun q hq => decide_eq_false (fun z => he ⟨q, hq, z⟩), show sum4 [] = 0 from rfl, Int.zero_add]
        have := miss_nn mi at_ t
        omega
  · intro h
    have h0 := of_decide_eq_true (h t (List.mem_append.mpr (.inr List.mem_cons_self)))
    have hnn : 0 ≤ sum4 (S.filter fun q => decide (q.2.2.2 ≥ t)) := sum4_nonneg fun q hq => k.cs (q.2.2.2, q.2.2.1) (List.mem_map.mpr ⟨q, (List.mem_filter.mp hq).1, rfl⟩)
    have hnb := Int.mul_nonneg (show 0 ≤ b by omega) hnn
    rw [hz] at h0
    unfold missB
    split
    · rcases k.ex with z | ⟨f, hf, z⟩
      · omega
      · obtain ⟨q, hq, rfl⟩ := hist_mem hf
        have h1 := of_decide_eq_true (h q.2.2.2 (List.mem_append.mpr (.inl (List.mem_map.mpr ⟨q, hq, rfl⟩))))
        rw [from_hist] at z
        rw [hz] at h1
        have z : mi = b * sum4 (S.filter fun q' => decide (q'.2.2.2 ≥ q.2.2.2)) - (at_ - q.2.2.2) := z
        omega
    · omega
theorem buck_earl {mi at_ : Int} (k : KeepB b mo mi at_ (hist S)) (hb : 1 ≤ b) (ht : mo ≤ t) : EarlOk (buckR a b S c) (c > a) t (earlB a b (missB mi at_ t) c t) := by
  unfold earlB
  by_cases h1 : missB mi at_ t + b * c - a * b ≤ 0
  · rw [if_pos h1]
    exact ⟨Int.le_refl _, by rw [← buck_meter k hb ht]; exact decide_eq_true h1, .inl rfl⟩
  · rw [if_neg h1]
    by_cases h2 : c > a
    · rw [if_pos h2]; exact h2
    · rw [if_neg h2]
      have h3 := le_mul_of hb (show c ≤ a by omega)
      have hle := k.le
      have hm : missB mi at_ t = mi - (t - at_) ∧ mi - (t - at_) > 0 := by
        unfold missB at *
        by_cases z : mi - (t - at_) > 0
        · rw [if_pos z]; exact ⟨rfl, z⟩
        · rw [if_neg z] at h1; omega
      refine ⟨by omega, ?_, .inr ?_⟩
      · rw [← buck_meter k hb (by omega)]
        refine decide_eq_true ?_
        unfold missB
        split <;> omega
      · rw [← buck_meter k hb (by omega)]
        refine decide_eq_false ?_
        have h4 := miss_ge mi at_ (t + (missB mi at_ t + b * c - a * b) - 1)
        omega
/-! gap -/
def gapAt (a u : Int) : Option Int → Bool
  | none => true
  | some x => decide (u - x ≥ a)
theorem gap_last (hs : S.Pairwise fun p q => p.2.2.2 ≤ q.2.2.2) : gapR a S t = gapAt a t (S.map fun q => q.2.2.2).getLast? := by
  unfold gapR
  cases hg : (S.map fun q => q.2.2.2).getLast? with
  | none =>
    have e : S = [] := List.map_eq_nil_iff.mp (List.getLast?_eq_none_iff.mp hg)
    rw [e]
    rfl
  | some x =>
    show _ = decide (t - x ≥ a)
    rw [Bool.eq_iff_iff, List.all_eq_true, decide_eq_true_eq]
    have hm : x ∈ S.map fun q => q.2.2.2 := List.mem_of_getLast? hg
    obtain ⟨q0, hq0, hx0⟩ := List.mem_map.mp hm
    constructor
    · intro h
      have := of_decide_eq_true (h q0 hq0)
      rw [hx0] at this
      exact this
    · intro h q hq
      refine decide_eq_true ?_
      have hmx : q.2.2.2 ≤ x := by
        have hp : (S.map fun q => q.2.2.2).Pairwise (· ≤ ·) := List.pairwise_map.mpr hs
        obtain ⟨pre, hpre⟩ := List.getLast?_eq_some_iff.mp hg
        rw [hpre] at hp
        have hq1 : q.2.2.2 ∈ pre ++ [x] := by rw [← hpre]; exact List.mem_map.mpr ⟨q, hq, rfl⟩
        rcases List.mem_append.mp hq1 with w | w
        · exact (List.pairwise_append.mp hp).2.2 _ w x List.mem_cons_self
        · rw [List.mem_singleton.mp w]; exact Int.le_refl _
      omega
theorem earlG_at (a t : Int) (last : Option Int) : t ≤ earlG a last t ∧ gapAt a (earlG a last t) last = true ∧ (earlG a last t = t ∨ gapAt a (earlG a last t - 1) last = false) ∧ (earlG a last t = t ↔ gapAt a t last = true) := by
  cases last with
  | none => exact ⟨Int.le_refl _, rfl, .inl rfl, fun _ => rfl, fun _ => rfl⟩
  | some x =>
    obtain ⟨e, he⟩ : ∃ e, earlG a (some x) t = e := ⟨_, rfl⟩
    rw [he]
    have he : (if x + a > t then x + a else t) = e := he
    show t ≤ e ∧ decide (e - x ≥ a) = true ∧ (e = t ∨ decide (e - 1 - x ≥ a) = false) ∧ (e = t ↔ decide (t - x ≥ a) = true)
    rw [decide_eq_true_eq, decide_eq_true_eq, decide_eq_false_iff_not]
    split at he <;> omega
theorem gap_meter (hs : S.Pairwise fun p q => p.2.2.2 ≤ q.2.2.2) : decide (earlG a (S.map fun q => q.2.2.2).getLast? t = t) = gapR a S t := by
  rw [gap_last hs, Bool.eq_iff_iff, decide_eq_true_eq]
  exact (earlG_at a t _).2.2.2
theorem gap_earl (hs : S.Pairwise fun p q => p.2.2.2 ≤ q.2.2.2) : EarlOk (gapR a S) False t (some (earlG a (S.map fun q => q.2.2.2).getLast? t)) := by
  obtain ⟨h1, h2, h3, _⟩ := earlG_at a t (S.map fun q => q.2.2.2).getLast?
  refine ⟨h1, by rw [gap_last hs]; exact h2, ?_⟩
  rcases h3 with z | z
  · exact .inl z
  · exact .inr (by rw [gap_last hs]; exact z)
/-! held, pool -/
def hE (Hd : List Q4) : List EH := Hd.map fun q => (q.1, q.2.2.1)
theorem held_meter (Hd : List Q4) : decide (sumH (hE Hd) + c ≤ a) = heldR a Hd c := by
  unfold heldR sumH hE sum4
  rw [List.map_map]
  rfl
theorem pool_meter {m : Int} {sh : List Shr} {Hd : List Q4} {g : Str} (ha : Asc (sh.map (·.1))) (hg : g ∈ sh.map (·.1)) : roomP m sh (Hd.map e34) g c = poolR m sh Hd g c := by
  have hu : ∀ s, (if s = g then useP (Hd.map e34) s + c else useP (Hd.map e34) s) = useR Hd g c s := fun s => by
    have h1 : useP (Hd.map e34) s = sum4 (Hd.filter fun q => decide (q.2.1 = s)) := by
      unfold useP sum4
      rw [List.filter_map, List.map_map]
      rfl
    unfold useR
    rw [h1]
    by_cases z : s = g
    · rw [if_pos z, if_pos z]; omega
    · rw [if_neg z, if_neg z]; omega
  have hug : useP (Hd.map e34) g + c = useR Hd g c g := by rw [← hu g, if_pos rfl]
  have hsh : (shareP sh g).2 = ceilG sh g := by
    obtain ⟨s, hs, hs1⟩ := List.mem_map.mp hg
    have h1 := ceil_is ha hs
    rw [hs1] at h1
    rw [h1]
    unfold shareP
    cases hf : sh.find? fun s => decide (s.1 = g) with
    | none => exact absurd (decide_eq_true hs1) (List.find?_eq_none.mp hf s hs)
    | some s' =>
      have h2 := of_decide_eq_true (List.find?_some (p := fun s : S3 => decide (s.1 = g)) hf)
      have h3 := shr_uniq ha (List.mem_of_find?_eq_some hf) hs (h2.trans hs1.symm)
      rw [h3]
  have hany : (sh.any fun s => decide (s.1 = g) && decide (useR Hd g c s.1 > s.2.2)) = decide (useR Hd g c g > ceilG sh g) := by
    rw [Bool.eq_iff_iff, List.any_eq_true, decide_eq_true_eq]
    constructor
    · rintro ⟨s, hs, h⟩
      rw [Bool.and_eq_true, decide_eq_true_eq, decide_eq_true_eq] at h
      have e := ceil_is ha hs
      obtain ⟨h1, h2⟩ := h
      rw [h1] at e h2
      rw [e]
      exact h2
    · intro h
      obtain ⟨s, hs, hs1⟩ := List.mem_map.mp hg
      have e := ceil_is ha hs
      rw [hs1] at e
      refine ⟨s, hs, ?_⟩
      rw [Bool.and_eq_true, decide_eq_true_eq, decide_eq_true_eq, hs1, ← e]
      exact ⟨rfl, h⟩
  have hbor : borP sh (fun n => if n = g then useP (Hd.map e34) n + c else useP (Hd.map e34) n) = (sh.map (overR Hd g c)).sum := by
    unfold borP
    congr 1
    refine List.map_congr_left fun s _ => ?_
    show posI ((if s.1 = g then useP (Hd.map e34) s.1 + c else useP (Hd.map e34) s.1) - s.2.1) = _
    rw [hu]
    rfl
  unfold roomP poolR
  rw [show seesP sh g = true from decide_eq_true hg, hug, hsh, hany, hbor]
  rfl
end
/-! ### the state of a meter of any word -/
inductive MSt4 where
  | win (ps : List MC)
  | span (sp us : Int)
  | buck (mi at_ : Int)
  | gap (last : Option Int)
  | held (es : List EH)
  | pool (es : List E3)
def nA (l : Lm) : Int := match l.nu with
  | .flat ns => ns.getD 0 0
  | .pool m _ => m
def nB (l : Lm) : Int := match l.nu with
  | .flat ns => ns.getD 1 0
  | .pool _ _ => 0
def shL (l : Lm) : List Shr := match l.nu with
  | .flat _ => []
  | .pool _ sh => sh
def roomM (l : Lm) (g : Str) (c t : Int) : MSt4 → Bool
  | .win ps => !seesL l g || decide (sumC (live (nB l) t ps) + c ≤ nA l)
  | .span sp us => !seesL l g || decide (usedS (nB l) sp us t + c ≤ nA l)
  | .buck mi at_ => !seesL l g || decide (missB mi at_ t + nB l * c - nA l * nB l ≤ 0)
  | .gap last => decide ((if seesL l g then earlG (nA l) last t else t) = t)
  | .held es => !seesL l g || decide (sumH es + c ≤ nA l)
  | .pool es => roomP (nA l) (shL l) es g c
def earlM (l : Lm) (g : Str) (c t : Int) : MSt4 → Option Int
  | .win ps => if seesL l g then earlW (nA l) (nB l) c t (live (nB l) t ps) else some t
  | .span sp us => if seesL l g then earlS (nA l) (nB l) (usedS (nB l) sp us t) c t else some t
  | .buck mi at_ => if seesL l g then earlB (nA l) (nB l) (missB mi at_ t) c t else some t
  | .gap last => some (if seesL l g then earlG (nA l) last t else t)
  | .held es => if !seesL l g || decide (sumH es + c ≤ nA l) then some t else none
  | .pool es => if roomP (nA l) (shL l) es g c then some t else none
def letM (l : Lm) (k g : Str) (c t : Int) (st : MSt4) : MSt4 := if seesL l g then (match st with
  | .win ps => .win (letW (nB l) t c ps)
  | .span sp us => .span (t / nB l) (usedS (nB l) sp us t + c)
  | .buck mi at_ => .buck (missB mi at_ t + nB l * c) t
  | .gap _ => .gap (some t)
  | .held es => .held (es ++ [(k, c)])
  | .pool es => .pool (es ++ [(k, (g, c))])) else st
def relM (k : Str) : MSt4 → MSt4
  | .held es => .held (es.filter fun e => decide (e.1 ≠ k))
  | .pool es => .pool (es.filter fun e => decide (e.1 ≠ k))
  | st => st
def newM (l : Lm) : MSt4 := match l.nu with
  | .pool _ _ => .pool []
  | .flat _ => if l.wd = "window" then .win [] else if l.wd = "span" then .span 0 0 else if l.wd = "bucket" then .buck 0 0 else if l.wd = "gap" then .gap none else .held []
def KeepM (l : Lm) (xs : List Q4) (gone : List Str) (mo : Int) : MSt4 → Prop
  | .win ps => l.wd = "window" ∧ (∃ a b, l.nu = .flat [a, b]) ∧ KeepW (nB l) mo ps (hist (seen4 l xs)) ∧ ∀ r ∈ ps, 0 ≤ r.2
  | .span sp us => l.wd = "span" ∧ (∃ a b, l.nu = .flat [a, b]) ∧ KeepS (nB l) mo sp us (hist (seen4 l xs))
  | .buck mi at_ => l.wd = "bucket" ∧ (∃ a b, l.nu = .flat [a, b]) ∧ KeepB (nB l) mo mi at_ (hist (seen4 l xs))
  | .gap last => l.wd = "gap" ∧ (∃ a, l.nu = .flat [a]) ∧ last = ((seen4 l xs).map fun q => q.2.2.2).getLast?
  | .held es => l.wd = "held" ∧ (∃ a, l.nu = .flat [a]) ∧ es = hE (held4 l xs gone)
  | .pool es => (∃ m sh, l.nu = .pool m sh) ∧ es = (held4 l xs gone).map e34
section
variable {l : Lm} {xs : List Q4} {gone : List Str} {mo : Int} {st : MSt4} {g k : Str} {c t : Int}
theorem two_nums {a b : Int} (hok : l.Ok) (hw : l.wd = "window" ∨ l.wd = "span" ∨ l.wd = "bucket") (hn : l.nu = .flat [a, b]) : nA l = a ∧ nB l = b ∧ 0 ≤ a ∧ a ≤ 1000000 ∧ 1 ≤ b ∧ b ≤ 1000000 := by
  obtain ⟨a', b', h1, h2, h3, h4, h5⟩ := lm_two hok hw
  rw [hn] at h1
  have e := Nu.flat.inj h1
  obtain ⟨e1, e2⟩ := List.cons.inj e
  have e2 := (List.cons.inj e2).1
  subst e1 e2
  refine ⟨?_, ?_, h2, h3, h4, h5⟩
  · unfold nA; rw [hn]; rfl
  · unfold nB; rw [hn]; rfl
theorem seen_sort (hs : xs.Pairwise fun p q => p.2.2.2 ≤ q.2.2.2) : (seen4 l xs).Pairwise fun p q => p.2.2.2 ≤ q.2.2.2 := hs.filter _
/-- what a meter says of room and of the earliest moment -/
theorem meter_says (hok : l.Ok) (K : KeepM l xs gone mo st) (hx : Past xs mo) (hs : xs.Pairwise fun p q => p.2.2.2 ≤ q.2.2.2) (ht : mo ≤ t) :
    roomM l g c t st = roomB l xs gone g c t ∧ (seesL l g = true → EarlOk (roomS l xs gone g c) (neverS l xs gone g c = true) t (earlM l g c t st)) ∧ (seesL l g = false → earlM l g c t st = some t) := by
  have hm : ∀ q ∈ seen4 l xs, q.2.2.2 ≤ mo := fun q hq => (hx.seen q hq).2
  have hss := seen_sort (l := l) hs
  unfold roomB
  cases st with
  | win ps =>
    obtain ⟨hw, ⟨a, b, hn⟩, k1, k2⟩ := K
    obtain ⟨eA, eB, _, _, hb, _⟩ := two_nums hok (.inl hw) hn
    have hR : ∀ u, roomS l xs gone g c u = winR a b (seen4 l xs) c u := fun u => by rw [room_win hn hw]; rfl
    have hN : neverS l xs gone g c = decide (c > a) := by
      obtain ⟨a', b', h1, h2⟩ := never_two (xs := xs) (gone := gone) (g := g) (c := c) hok (by rw [hw]; decide +kernel) (by rw [hw]; decide +kernel) (by rw [hw]; decide +kernel)
      rw [hn] at h1
      rw [h2, (List.cons.inj (Nu.flat.inj h1)).1]
    rw [eB] at k1
    unfold roomM earlM
    dsimp only
    rw [eA, eB]
    refine ⟨by rw [hR, win_meter k1 ht], fun h => ?_, fun h => by rw [h]; rfl⟩
    rw [h, if_pos rfl, show roomS l xs gone g c = winR a b (seen4 l xs) c from funext hR]
    have := win_earl (a := a) (c := c) k1 ht hb k2
    rw [hN, decide_eq_true_eq]
    exact this
  | span sp us =>
    obtain ⟨hw, ⟨a, b, hn⟩, k1⟩ := K
    obtain ⟨eA, eB, _, _, hb, _⟩ := two_nums hok (.inr (.inl hw)) hn
    have hR : ∀ u, roomS l xs gone g c u = spanR a b (seen4 l xs) c u := fun u => by rw [room_span hn hw]; rfl
    have hN : neverS l xs gone g c = decide (c > a) := by
      obtain ⟨a', b', h1, h2⟩ := never_two (xs := xs) (gone := gone) (g := g) (c := c) hok (by rw [hw]; decide +kernel) (by rw [hw]; decide +kernel) (by rw [hw]; decide +kernel)
      rw [hn] at h1
      rw [h2, (List.cons.inj (Nu.flat.inj h1)).1]
    rw [eB] at k1
    unfold roomM earlM
    dsimp only
    rw [eA, eB]
    refine ⟨by rw [hR, span_meter k1 hb ht], fun h => ?_, fun h => by rw [h]; rfl⟩
    rw [h, if_pos rfl, show roomS l xs gone g c = spanR a b (seen4 l xs) c from funext hR]
    have := span_earl (a := a) (c := c) k1 hb ht hm
    rw [hN, decide_eq_true_eq]
    exact this
  | buck mi at_ =>
    obtain ⟨hw, ⟨a, b, hn⟩, k1⟩ := K
    obtain ⟨eA, eB, _, _, hb, _⟩ := two_nums hok (.inr (.inr hw)) hn
    have hR : ∀ u, roomS l xs gone g c u = buckR a b (seen4 l xs) c u := fun u => by rw [room_buck hn hw]; rfl
    have hN : neverS l xs gone g c = decide (c > a) := by
      obtain ⟨a', b', h1, h2⟩ := never_two (xs := xs) (gone := gone) (g := g) (c := c) hok (by rw [hw]; decide +kernel) (by rw [hw]; decide +kernel) (by rw [hw]; decide +kernel)
      rw [hn] at h1
      rw [h2, (List.cons.inj (Nu.flat.inj h1)).1]
    rw [eB] at k1
    unfold roomM earlM
    dsimp only
    rw [eA, eB]
    refine ⟨by rw [hR, buck_meter k1 hb ht], fun h => ?_, fun h => by rw [h]; rfl⟩
    rw [h, if_pos rfl, show roomS l xs gone g c = buckR a b (seen4 l xs) c from funext hR]
    have := buck_earl (a := a) (c := c) k1 hb ht
    rw [hN, decide_eq_true_eq]
    exact this
  | gap last =>
    obtain ⟨hw, ⟨a, hn⟩, k1⟩ := K
    have eA : nA l = a := by unfold nA; rw [hn]; rfl
    have hR : ∀ u, roomS l xs gone g c u = gapR a (seen4 l xs) u := fun u => by rw [room_gap hn hw]; rfl
    unfold roomM earlM
    dsimp only
    rw [eA, k1]
    cases h : seesL l g with
    | false => exact ⟨by rw [if_neg (by decide)]; exact decide_eq_true rfl, (fun z => nomatch z), fun _ => by rw [if_neg (by decide)]⟩
    | true =>
      refine ⟨?_, fun _ => ?_, (fun z => nomatch z)⟩
      · rw [if_pos rfl, hR, gap_meter hss]
        rfl
      · rw [if_pos rfl, show roomS l xs gone g c = gapR a (seen4 l xs) from funext hR]
        exact gap_earl hss
  | held es =>
    obtain ⟨hw, ⟨a, hn⟩, k1⟩ := K
    have eA : nA l = a := by unfold nA; rw [hn]; rfl
    have hR : ∀ u, roomS l xs gone g c u = heldR a (held4 l xs gone) c := fun u => by rw [room_held hn hw]; rfl
    have hN : neverS l xs gone g c = !heldR a (held4 l xs gone) c := by rw [never_hp (mo := mo) hok (.inl hw), hR]
    unfold roomM earlM
    dsimp only
    rw [eA, k1, held_meter]
    refine ⟨by rw [hR], fun h => ?_, fun h => by rw [h]; rfl⟩
    rw [h, show roomS l xs gone g c = fun _ => heldR a (held4 l xs gone) c from funext hR, hN]
    cases hh : heldR a (held4 l xs gone) c with
    | true => exact ⟨Int.le_refl _, rfl, .inl rfl⟩
    | false => exact (rfl : (!false) = true)
  | pool es =>
    obtain ⟨⟨m, sh, hn⟩, k1⟩ := K
    have o3 := hok.2.2
    rw [hn] at o3
    have eA : nA l = m := by unfold nA; rw [hn]
    have eS : shL l = sh := by unfold shL; rw [hn]
    have hR : ∀ u, roomS l xs gone g c u = poolR m sh (held4 l xs gone) g c := fun u => room_pool hn
    have hN : neverS l xs gone g c = !poolR m sh (held4 l xs gone) g c := by rw [never_hp (mo := mo) hok (.inr o3.1), hR]
    have hsee : seesL l g = decide (g ∈ sh.map (·.1)) := by unfold seesL; rw [hn]
    unfold roomM earlM
    dsimp only
    rw [eA, eS, k1]
    cases h : seesL l g with
    | false =>
      have hr : roomP m sh ((held4 l xs gone).map e34) g c = true := roomP_skip (by rw [hsee] at h; exact h)
      exact ⟨hr, (fun z => nomatch z), fun _ => by rw [hr, if_pos rfl]⟩
    | true =>
      have hg : g ∈ sh.map (·.1) := by rw [hsee] at h; exact of_decide_eq_true h
      have hr := pool_meter (m := m) (c := c) (Hd := held4 l xs gone) o3.2.2.2.2.1 hg
      refine ⟨by rw [hr, hR]; rfl, fun _ => ?_, (fun z => nomatch z)⟩
      rw [hr, show roomS l xs gone g c = fun _ => poolR m sh (held4 l xs gone) g c from funext hR, hN]
      cases hh : poolR m sh (held4 l xs gone) g c with
      | true => exact ⟨Int.le_refl _, rfl, .inl rfl⟩
      | false => exact (rfl : (!false) = true)
end
section
variable {l : Lm} {xs : List Q4} {gone : List Str} {mo : Int} {st : MSt4} {g k : Str} {c t : Int}
theorem seen_snoc (h : seesL l g = true) : seen4 l (xs ++ [(k, g, c, t)]) = seen4 l xs ++ [(k, g, c, t)] := by
  unfold seen4
  rw [List.filter_append, List.filter_cons_of_pos (p := fun q : Q4 => seesL l q.2.1) h]
  rfl
theorem seen_skip (h : seesL l g = false) : seen4 l (xs ++ [(k, g, c, t)]) = seen4 l xs := by
  unfold seen4
  rw [List.filter_append, List.filter_cons_of_neg (p := fun q : Q4 => seesL l q.2.1) (by show ¬ seesL l g = true; rw [h]; decide), List.filter_nil, List.append_nil]
theorem held_snoc (h : seesL l g = true) (hk : k ∉ gone) : held4 l (xs ++ [(k, g, c, t)]) gone = held4 l xs gone ++ [(k, g, c, t)] := by
  unfold held4
  rw [seen_snoc h, List.filter_append, List.filter_cons_of_pos (p := fun q : Q4 => decide (q.1 ∉ gone)) (decide_eq_true hk)]
  rfl
theorem held_skip (h : seesL l g = false) : held4 l (xs ++ [(k, g, c, t)]) gone = held4 l xs gone := by
  unfold held4
  rw [seen_skip h]
theorem held_rel : held4 l xs (gone ++ [k]) = (held4 l xs gone).filter fun q => decide (q.1 ≠ k) := by
  unfold held4
  rw [List.filter_filter]
  refine List.filter_congr fun q _ => ?_
  rw [← Bool.decide_and]
  refine decide_eq_decide.mpr ?_
  rw [List.mem_append, List.mem_singleton, not_or]
  exact ⟨fun z => ⟨z.2, z.1⟩, fun z => ⟨z.2, z.1⟩⟩
theorem later_m {mo' : Int} (hok : l.Ok) (K : KeepM l xs gone mo st) (h : mo ≤ mo') : KeepM l xs gone mo' st := by
  cases st with
  | win ps => obtain ⟨h1, h2, h3, h4⟩ := K; exact ⟨h1, h2, h3.later h, h4⟩
  | span sp us =>
    obtain ⟨h1, h2, h3⟩ := K
    obtain ⟨a, b, hn⟩ := h2
    obtain ⟨_, eB, _, _, hb, _⟩ := two_nums hok (.inr (.inl h1)) hn
    exact ⟨h1, ⟨a, b, hn⟩, h3.later (by rw [eB]; exact hb) h⟩
  | buck mi at_ => obtain ⟨h1, h2, h3⟩ := K; exact ⟨h1, h2, h3.later h⟩
  | gap last => exact K
  | held es => exact K
  | pool es => exact K
theorem let_m (hok : l.Ok) (K : KeepM l xs gone mo st) (ht : mo ≤ t) (hc : 0 ≤ c) (hk : k ∉ gone) : KeepM l (xs ++ [(k, g, c, t)]) gone t (letM l k g c t st) := by
  unfold letM
  cases h : seesL l g with
  | false =>
    rw [if_neg (by decide)]
    have K2 := later_m hok K ht
    cases st with
    | win ps => unfold KeepM at *; rw [seen_skip h]; exact K2
    | span sp us => unfold KeepM at *; rw [seen_skip h]; exact K2
    | buck mi at_ => unfold KeepM at *; rw [seen_skip h]; exact K2
    | gap last => unfold KeepM at *; rw [seen_skip h]; exact K2
    | held es => unfold KeepM at *; rw [held_skip h]; exact K2
    | pool es => unfold KeepM at *; rw [held_skip h]; exact K2
  | true =>
    rw [if_pos rfl]
    cases st with
    | win ps =>
      obtain ⟨h1, h2, h3, h4⟩ := K
      refine ⟨h1, h2, ?_, letW_cs h4 hc⟩
      rw [seen_snoc h, hist_snoc]
      exact h3.snoc ht
    | span sp us =>
      obtain ⟨h1, h2, h3⟩ := K
      obtain ⟨a, b, hn⟩ := h2
      obtain ⟨_, eB, _, _, hb, _⟩ := two_nums hok (.inr (.inl h1)) hn
      refine ⟨h1, ⟨a, b, hn⟩, ?_⟩
      rw [seen_snoc h, hist_snoc]
      exact h3.snoc (by rw [eB]; exact hb) ht
    | buck mi at_ =>
      obtain ⟨h1, h2, h3⟩ := K
      obtain ⟨a, b, hn⟩ := h2
      obtain ⟨_, eB, _, _, hb, _⟩ := two_nums hok (.inr (.inr h1)) hn
      refine ⟨h1, ⟨a, b, hn⟩, ?_⟩
      rw [seen_snoc h, hist_snoc]
      exact h3.snoc ht hc (by rw [eB]; omega)
    | gap last =>
      obtain ⟨h1, h2, _⟩ := K
      refine ⟨h1, h2, ?_⟩
      rw [seen_snoc h, List.map_append, List.map_singleton, List.getLast?_concat]
    | held es =>
      obtain ⟨h1, h2, h3⟩ := K
      refine ⟨h1, h2, ?_⟩
      rw [held_snoc h hk, h3]
      unfold hE
      rw [List.map_append]
      rfl
    | pool es =>
      obtain ⟨h2, h3⟩ := K
      refine ⟨h2, ?_⟩
      rw [held_snoc h hk, h3, List.map_append]
      rfl
theorem rel_m (K : KeepM l xs gone mo st) : KeepM l xs (gone ++ [k]) mo (relM k st) := by
  cases st with
  | win ps => exact K
  | span sp us => exact K
  | buck mi at_ => exact K
  | gap last => exact K
  | held es =>
    obtain ⟨h1, h2, h3⟩ := K
    refine ⟨h1, h2, ?_⟩
    rw [held_rel, h3]
    unfold hE
    rw [List.filter_map]
    rfl
  | pool es =>
    obtain ⟨h2, h3⟩ := K
    refine ⟨h2, ?_⟩
    rw [held_rel, h3, List.filter_map]
    rfl
theorem new_m (hok : l.Ok) : KeepM l [] [] 0 (newM l) := by
  have o3 := hok.2.2
  unfold newM
  cases hn : l.nu with
  | pool m sh => exact ⟨⟨m, sh, hn⟩, rfl⟩
  | flat ns =>
    rw [hn] at o3
    dsimp only
    rcases o3.1 with ⟨z, a, b, rfl, k1, k2, k3, k4⟩ | ⟨z, b, rfl, k1, k2⟩ | ⟨z, a, rfl, k1, k2⟩
    · have eB : nB l = b := by unfold nB; rw [hn]; rfl
      rcases z with z | z | z
      · rw [if_pos z]
        exact ⟨z, ⟨a, b, hn⟩, ⟨fun _ _ => rfl, (fun r hr => nomatch hr), (fun r hr => nomatch hr), List.Pairwise.nil, (fun r hr => nomatch hr)⟩, (fun r hr => nomatch hr)⟩
      · rw [if_neg (by rw [z]; decide +kernel), if_pos z]
        exact ⟨z, ⟨a, b, hn⟩, ⟨rfl, (fun r hr => nomatch hr), by rw [Int.zero_ediv]; exact Int.le_refl _⟩⟩
      · rw [if_neg (by rw [z]; decide +kernel), if_neg (by rw [z]; decide +kernel), if_pos z]
        exact ⟨z, ⟨a, b, hn⟩, ⟨Int.le_refl _, (fun r hr => nomatch hr), .inl rfl, (fun r hr => nomatch hr), (fun r hr => nomatch hr), Int.le_refl _⟩⟩
    · rw [if_neg (by rw [z]; decide +kernel), if_neg (by rw [z]; decide +kernel), if_neg (by rw [z]; decide +kernel), if_pos z]
      exact ⟨z, ⟨b, hn⟩, rfl⟩
    · rw [if_neg (by rw [z]; decide +kernel), if_neg (by rw [z]; decide +kernel), if_neg (by rw [z]; decide +kernel), if_neg (by rw [z]; decide +kernel)]
      exact ⟨z, ⟨a, hn⟩, rfl⟩
end
/-! ### the earliest moment of all limits -/
/-- e is an earliest moment for a limit -/
def OneSoon (l : Lm) (xs : List Q4) (gone : List Str) (g : Str) (c t : Int) : Option Int → Prop
  | none => seesL l g = true ∧ neverS l xs gone g c = true
  | some e => t ≤ e ∧ roomB l xs gone g c e = true ∧ (e = t ∨ roomB l xs gone g c (e - 1) = false)
theorem one_soon {l : Lm} {xs : List Q4} {gone : List Str} {mo : Int} {st : MSt4} {g : Str} {c t : Int} (hok : l.Ok) (K : KeepM l xs gone mo st) (hx : Past xs mo) (hs : xs.Pairwise fun p q => p.2.2.2 ≤ q.2.2.2) (ht : mo ≤ t) : OneSoon l xs gone g c t (earlM l g c t st) := by
  obtain ⟨_, h2, h3⟩ := meter_says (g := g) (c := c) hok K hx hs ht
  cases h : seesL l g with
  | false =>
    rw [h3 h]
    refine ⟨Int.le_refl _, ?_, .inl rfl⟩
    unfold roomB
    rw [h]
    rfl
  | true =>
    have h4 := h2 h
    have hr : ∀ u, roomB l xs gone g c u = roomS l xs gone g c u := fun u => by unfold roomB; rw [h]; rfl
    cases he : earlM l g c t st with
    | none => rw [he] at h4; exact ⟨h, h4⟩
    | some e =>
      rw [he] at h4
      obtain ⟨a1, a2, a3⟩ := h4
      exact ⟨a1, by rw [hr]; exact a2, by rw [hr]; exact a3⟩
/-- all limits together -/
theorem all_soon {ls : List (Addr × Lm)} {xs : List Q4} {gone : List Str} {g : Str} {c t : Int} {es : List (Option Int)} {E : Option Int} (hok : ∀ x ∈ ls, x.2.Ok) (hx : Past xs t) (hsum : sum4 xs ≤ 1000000) (hc0 : 0 ≤ c) (hc1 : c ≤ 1000)
    (hl : es.length = ls.length) (h : ∀ (i : Nat) (x : Addr × Lm) (e : Option Int), ls[i]? = some x → es[i]? = some e → OneSoon x.2 xs gone g c t e)
    (hE : (none ∈ es ∧ E = none) ∨ (none ∉ es ∧ ∃ m, E = some m ∧ t ≤ m ∧ (∀ e, some e ∈ es → e ≤ m) ∧ (m = t ∨ some m ∈ es))) : IsSoon (lackB ls xs gone g c) t E := by
  have hF := lack_falls (ls := ls) (gone := gone) (g := g) (c := c) hok hx
  have hfar := lack_far (gone := gone) (g := g) hok hx hsum hc0 hc1
  have hat : ∀ {e : Option Int}, e ∈ es → ∃ x ∈ ls, OneSoon x.2 xs gone g c t e := fun {e} he => by
    obtain ⟨i, hi⟩ := List.getElem?_of_mem he
    have hi2 : i < ls.length := by rw [← hl]; exact (List.getElem?_eq_some_iff.mp hi).1
    exact ⟨ls[i], List.getElem_mem hi2, h i _ _ (List.getElem?_eq_getElem hi2) hi⟩
  rcases hE with ⟨hn, rfl⟩ | ⟨hn, m, rfl, ht, hle, hm⟩
  · obtain ⟨x, hx1, h1, h2⟩ := hat hn
    show lackB ls xs gone g c (t + FARI) = true
    exact List.any_eq_true.mpr ⟨x, hx1, by unfold roomB; rw [h1, never_all (hok x hx1) hx h2]; rfl⟩
  · rw [soon_asked hF (fun h t' _ => lack_never hok hx (by rw [← hfar]; exact h))]
    refine ⟨ht, ?_, ?_⟩
    · refine List.any_eq_false.mpr fun x hx1 => ?_
      obtain ⟨i, hi⟩ := List.getElem?_of_mem hx1
      have hi2 : i < es.length := by rw [hl]; exact (List.getElem?_eq_some_iff.mp hi).1
      have ho := h i x es[i] hi (List.getElem?_eq_getElem hi2)
      cases he : es[i] with
      | none => exact absurd (by rw [← he]; exact List.getElem_mem hi2) hn
      | some e =>
        rw [he] at ho
        obtain ⟨a1, a2, _⟩ := ho
        have hem := hle e (by rw [← he]; exact List.getElem_mem hi2)
        rw [room_mono (hok x hx1) hx a1 hem a2]
        decide
    · rcases hm with z | z
      · exact .inl z
      · obtain ⟨x, hx1, a1, a2, a3⟩ := hat z
        rcases a3 with w | w
        · exact .inl w
        · exact .inr (List.any_eq_true.mpr ⟨x, hx1, by rw [w]; rfl⟩)
theorem g_methV {S : Addr → Sp → Prop} {m : Str} {ta : TE} {t : TA} {σ : L2.St} {H : Hp} {Q : VK} (q : ta σ H fun x H1 => ∃ a C sp dx fs, x = .ref a ∧ H1 a = some (.ins C dx fs) ∧ S C sp ∧ fs.lookup m = none ∧ t σ H1 fun vs H2 => sp (x :: vs) H2 Q (fun _ _ _ => False)) : tMethV S m ta t σ H Q := q
/-- what a meter looks at -/
def LimU (K : PySem.W.Frag) (H : Hp) (p : Addr) (l : Lm) (s t : Int) : Prop := LmAt K H p l ∧ l.Ok ∧ l.nu = .flat [s, t]
def LimV (K : PySem.W.Frag) (H : Hp) (p : Addr) (l : Lm) (s : Int) : Prop := LmAt K H p l ∧ l.Ok ∧ l.nu = .flat [s]
def LimQ (K : PySem.W.Frag) (H : Hp) (p : Addr) (l : Lm) (m : Int) (sh : List S3) : Prop := LmAt K H p l ∧ l.Ok ∧ l.nu = .pool m sh
section
variable {K : PySem.W.Frag} {H H' : Hp} {p : Addr} {l : Lm} {s t m : Int} {sh : List S3}
theorem LimU.mono (h : LimU K H p l s t) (e : Ex H H') : LimU K H' p l s t := ⟨h.1.mono e, h.2⟩
theorem LimV.mono (h : LimV K H p l s) (e : Ex H H') : LimV K H' p l s := ⟨h.1.mono e, h.2⟩
theorem LimQ.mono (h : LimQ K H p l m sh) (e : Ex H H') : LimQ K H' p l m sh := ⟨h.1.mono e, h.2⟩
theorem LimQ.sees {g : Str} (h : LimQ K H p l m sh) : seesL l g = seesP sh g := by
  unfold seesL
  rw [h.2.2]
  rfl
theorem LimQ.P (h : LimQ K H p l m sh) : LimP K H p l.nm m sh := by
  obtain ⟨⟨g, n, h1, h2, h3⟩, hok, hn⟩ := h
  have o3 := hok.2.2
  rw [hn] at h3 o3
  obtain ⟨q, xs, k1, k2, k3, k4⟩ := h3
  rw [o3.1] at h1
  rw [o3.2.1] at h2
  exact ⟨g, n, q, xs, h1, h2, k1, k2, k4, k3, o3.2.2.2.1⟩
end
/-! ### meters in the heap -/
/-- all stands but what lies at F -/
def ExF (F : List Addr) (H H' : Hp) : Prop := ∀ b o, b ∉ F → H b = some o → H' b = some o
theorem ExF.of {F : List Addr} {H H' : Hp} (e : Ex H H') : ExF F H H' := fun b o _ h => e b o h
theorem ExF.trans {F : List Addr} {H H' H2 : Hp} (e : ExF F H H') (e2 : ExF F H' H2) : ExF F H H2 := fun b o hb h => e2 b o hb (e b o hb h)
theorem ExF.sub {F G : List Addr} {H H' : Hp} (e : ExF F H H') (s : ∀ b ∈ F, b ∈ G) : ExF G H H' := fun b o hb h => e b o (fun z => hb (s b z)) h
theorem ExF.toEx {F : List Addr} {H0 H H' : Hp} (e0 : Ex H0 H) (e : ExF F H H') (h : ∀ b ∈ F, H0 b = none) : Ex H0 H' := fun b o hb => e b o (fun z => by rw [h b z] at hb; cases hb) (e0 b o hb)
/-- an object or a dict -/
def Box (H : Hp) (b : Addr) : Prop := (∃ C dx fs, H b = some (.ins C dx fs)) ∨ ∃ kvs, H b = some (.dK kvs)
theorem Box.mono {H H' : Hp} {b : Addr} (h : Box H b) (e : Ex H H') : Box H' b := by
  rcases h with ⟨C, dx, fs, h⟩ | ⟨kvs, h⟩
  · exact .inl ⟨C, dx, fs, e _ _ h⟩
  · exact .inr ⟨kvs, e _ _ h⟩
section
variable {K : PySem.W.Frag} {F : List Addr} {H H' : Hp} {q : Addr} {vs : List V}
theorem ExF.tup (e : ExF F H H') (hb : ∀ b ∈ F, Box H b) {o : HO} (h : H q = some o) (hn : ¬ Box H q) : H' q = some o := e q o (fun z => hn (hb q z)) h
theorem box_lst {ys : List V} (h : H q = some (.lst ys)) : ¬ Box H q := by
  rintro (⟨C, dx, fs, z⟩ | ⟨kvs, z⟩) <;> (rw [h] at z; cases z)
theorem box_tup {ys : List V} (h : H q = some (.tup ys)) : ¬ Box H q := by
  rintro (⟨C, dx, fs, z⟩ | ⟨kvs, z⟩) <;> (rw [h] at z; cases z)
theorem box_frz {o : Obj} {x : HO} (h : H q = some (.frz o x)) : ¬ Box H q := by
  rintro (⟨C, dx, fs, z⟩ | ⟨kvs, z⟩) <;> (rw [h] at z; cases z)
theorem ExF.lst (e : ExF F H H') (hb : ∀ b ∈ F, Box H b) {ys : List V} (h : H q = some (.lst ys)) : H' q = some (.lst ys) := e.tup hb h (box_lst h)
theorem ExF.sqT (e : ExF F H H') (hb : ∀ b ∈ F, Box H b) (h : SqT K H q vs) : SqT K H' q vs := by
  rcases h with (h | ⟨o, h⟩) | h
  · exact .inl (.inl (e.tup hb h (box_tup h)))
  · exact .inl (.inr ⟨o, e.tup hb h (box_frz h)⟩)
  · exact .inr h
theorem ExF.sqL (e : ExF F H H') (hb : ∀ b ∈ F, Box H b) (h : SqL K H q vs) : SqL K H' q vs := by
  rcases h with (h | ⟨o, h⟩) | h
  · exact .inl (.inl (e.tup hb h (box_lst h)))
  · exact .inl (.inr ⟨o, e.tup hb h (box_frz h)⟩)
  · exact .inr h
theorem ExF.lm (e : ExF F H H') (hb : ∀ b ∈ F, Box H b) {p : Addr} {l : Lm} (h : LmAt K H p l) : LmAt K H' p l := h.tr fun q vs z => e.sqT hb z
end
def kindM : MSt4 → Nat
  | .win _ => 0
  | .span _ _ => 1
  | .buck _ _ => 2
  | .gap _ => 3
  | .held _ => 4
  | .pool _ => 5
def sizeM : MSt4 → Nat
  | .win ps => ps.length
  | .held es => es.length
  | .pool es => es.length
  | _ => 0
/-- a meter in the heap: it lies at m, what changes lies at F -/
def MetAt (K : PySem.W.Frag) (C : Nat → Addr) (H : Hp) (m p : Addr) (F : List Addr) (l : Lm) : MSt4 → Prop
  | .win ps => F = [m] ∧ ∃ (dx pS : Addr) (qs : List (Addr × MC)), H m = some (.ins (C 0) dx (flW p (nA l) (nB l) pS)) ∧ SumsAt K H pS qs ∧ qs.map (·.2) = ps
  | .span sp us => F = [m] ∧ ∃ dx : Addr, H m = some (.ins (C 1) dx (flS p (nA l) (nB l) sp us))
  | .buck mi at_ => F = [m] ∧ ∃ dx : Addr, H m = some (.ins (C 2) dx (flB p (nA l) (nB l) mi at_))
  | .gap last => F = [m] ∧ ∃ dx : Addr, H m = some (.ins (C 3) dx (flG p (nA l) last))
  | .held es => ∃ (dx d : Addr), F = [m, d] ∧ MAt H (C 4) m dx p (nA l) d es
  | .pool es => ∃ (dx dC dU : Addr), F = [m, dC, dU] ∧ MAtP K H (C 5) m dx p dC dU (shL l) es
section
variable {K : PySem.W.Frag} {C : Nat → Addr} {H H' : Hp} {m p : Addr} {F G : List Addr} {l : Lm} {st : MSt4}
theorem MetAt.mono (h : MetAt K C H m p F l st) (e : Ex H H') : MetAt K C H' m p F l st := by
  cases st with
  | win ps => obtain ⟨h1, dx, pS, qs, h2, h3, h4⟩ := h; exact ⟨h1, dx, pS, qs, e _ _ h2, h3.mono e, h4⟩
  | span sp us => obtain ⟨h1, dx, h2⟩ := h; exact ⟨h1, dx, e _ _ h2⟩
  | buck mi at_ => obtain ⟨h1, dx, h2⟩ := h; exact ⟨h1, dx, e _ _ h2⟩
  | gap last => obtain ⟨h1, dx, h2⟩ := h; exact ⟨h1, dx, e _ _ h2⟩
  | held es => obtain ⟨dx, d, h1, h2⟩ := h; exact ⟨dx, d, h1, h2.mono e⟩
  | pool es => obtain ⟨dx, dC, dU, h1, h2⟩ := h; exact ⟨dx, dC, dU, h1, h2.mono e⟩
theorem MetAt.ins (h : MetAt K C H m p F l st) : ∃ dx fs, H m = some (.ins (C (kindM st)) dx fs) ∧ m ∈ F ∧ fs.lookup ("room" : Str) = none ∧ fs.lookup ("earliest" : Str) = none ∧ fs.lookup ("let" : Str) = none ∧ fs.lookup ("released" : Str) = none ∧ fs.lookup ("twin" : Str) = none := by
  cases st with
  | win ps => obtain ⟨rfl, dx, pS, qs, h2, _⟩ := h; exact ⟨dx, _, h2, List.mem_cons_self, rfl, rfl, rfl, rfl, rfl⟩
  | span sp us => obtain ⟨rfl, dx, h2⟩ := h; exact ⟨dx, _, h2, List.mem_cons_self, rfl, rfl, rfl, rfl, rfl⟩
  | buck mi at_ => obtain ⟨rfl, dx, h2⟩ := h; exact ⟨dx, _, h2, List.mem_cons_self, rfl, rfl, rfl, rfl, rfl⟩
  | gap last => obtain ⟨rfl, dx, h2⟩ := h; exact ⟨dx, _, h2, List.mem_cons_self, rfl, rfl, rfl, rfl, rfl⟩
  | held es => obtain ⟨dx, d, rfl, h2⟩ := h; exact ⟨dx, _, h2.hm, List.mem_cons_self, rfl, rfl, rfl, rfl, rfl⟩
  | pool es => obtain ⟨dx, dC, dU, rfl, h2⟩ := h; exact ⟨dx, _, h2.hm, List.mem_cons_self, rfl, rfl, rfl, rfl, rfl⟩
theorem MetAt.box (h : MetAt K C H m p F l st) : ∀ b ∈ F, Box H b := by
  cases st with
  | win ps => obtain ⟨rfl, dx, pS, qs, h2, _⟩ := h; intro b hb; rw [List.mem_singleton.mp hb]; exact .inl ⟨_, _, _, h2⟩
  | span sp us => obtain ⟨rfl, dx, h2⟩ := h; intro b hb; rw [List.mem_singleton.mp hb]; exact .inl ⟨_, _, _, h2⟩
  | buck mi at_ => obtain ⟨rfl, dx, h2⟩ := h; intro b hb; rw [List.mem_singleton.mp hb]; exact .inl ⟨_, _, _, h2⟩
  | gap last => obtain ⟨rfl, dx, h2⟩ := h; intro b hb; rw [List.mem_singleton.mp hb]; exact .inl ⟨_, _, _, h2⟩
  | held es =>
    obtain ⟨dx, d, rfl, h2⟩ := h
    intro b hb
    rcases List.mem_cons.mp hb with rfl | hb
    · exact .inl ⟨_, _, _, h2.hm⟩
    · rw [List.mem_singleton.mp hb]; exact .inr ⟨_, h2.hd⟩
  | pool es =>
    obtain ⟨dx, dC, dU, rfl, h2⟩ := h
    obtain ⟨ads, _, h3, _⟩ := h2.hc
    intro b hb
    rcases List.mem_cons.mp hb with rfl | hb
    · exact .inl ⟨_, _, _, h2.hm⟩
    · rcases List.mem_cons.mp hb with rfl | hb
      · exact .inr ⟨_, h3⟩
      · rw [List.mem_singleton.mp hb]; exact .inr ⟨_, h2.hu⟩
/-- what changes elsewhere leaves a meter -/
theorem MetAt.frame (h : MetAt K C H m p F l st) (e : ExF G H H') (hG : ∀ b ∈ G, Box H b) (hd : ∀ b ∈ F, b ∉ G) : MetAt K C H' m p F l st := by
  cases st with
  | win ps =>
    obtain ⟨rfl, dx, pS, qs, h2, h3, h4⟩ := h
    exact ⟨rfl, dx, pS, qs, e _ _ (hd m List.mem_cons_self) h2, ⟨e.lst hG h3.1, fun x hx => e.sqT hG (h3.2 x hx)⟩, h4⟩
  | span sp us => obtain ⟨rfl, dx, h2⟩ := h; exact ⟨rfl, dx, e _ _ (hd m List.mem_cons_self) h2⟩
  | buck mi at_ => obtain ⟨rfl, dx, h2⟩ := h; exact ⟨rfl, dx, e _ _ (hd m List.mem_cons_self) h2⟩
  | gap last => obtain ⟨rfl, dx, h2⟩ := h; exact ⟨rfl, dx, e _ _ (hd m List.mem_cons_self) h2⟩
  | held es =>
    obtain ⟨dx, d, rfl, h2⟩ := h
    exact ⟨dx, d, rfl, e _ _ (hd m List.mem_cons_self) h2.hm, e _ _ (hd d (List.mem_cons_of_mem _ List.mem_cons_self)) h2.hd⟩
  | pool es =>
    obtain ⟨dx, dC, dU, rfl, h2⟩ := h
    obtain ⟨ads, h3, h4, h5⟩ := h2.hc
    exact ⟨dx, dC, dU, rfl, e _ _ (hd m List.mem_cons_self) h2.hm, ⟨ads, h3, e _ _ (hd dC (List.mem_cons_of_mem _ List.mem_cons_self)) h4, fun x hx => e.sqT hG (h5 x hx)⟩, e _ _ (hd dU (List.mem_cons_of_mem _ (List.mem_cons_of_mem _ List.mem_cons_self))) h2.hu, h2.ne, h2.hg⟩
end
/-- the numbers a meter wants -/
def ShapeM (l : Lm) : MSt4 → Prop
  | .win _ => l.nu = .flat [nA l, nB l] ∧ 1 ≤ nB l ∧ nB l ≤ 1000000
  | .span _ _ => l.nu = .flat [nA l, nB l] ∧ 1 ≤ nB l ∧ nB l ≤ 1000000
  | .buck _ _ => l.nu = .flat [nA l, nB l] ∧ 1 ≤ nB l ∧ nB l ≤ 1000000
  | .gap _ => l.nu = .flat [nA l]
  | .held _ => l.nu = .flat [nA l]
  | .pool _ => l.nu = .pool (nA l) (shL l)
theorem KeepM.shape {l : Lm} {xs : List Q4} {gone : List Str} {mo : Int} {st : MSt4} (hok : l.Ok) (h : KeepM l xs gone mo st) : ShapeM l st := by
  cases st with
  | win ps => obtain ⟨h1, ⟨a, b, hn⟩, _⟩ := h; obtain ⟨e1, e2, _, _, h3, h4⟩ := two_nums hok (.inl h1) hn; exact ⟨by rw [e1, e2]; exact hn, by omega, by omega⟩
  | span sp us => obtain ⟨h1, ⟨a, b, hn⟩, _⟩ := h; obtain ⟨e1, e2, _, _, h3, h4⟩ := two_nums hok (.inr (.inl h1)) hn; exact ⟨by rw [e1, e2]; exact hn, by omega, by omega⟩
  | buck mi at_ => obtain ⟨h1, ⟨a, b, hn⟩, _⟩ := h; obtain ⟨e1, e2, _, _, h3, h4⟩ := two_nums hok (.inr (.inr h1)) hn; exact ⟨by rw [e1, e2]; exact hn, by omega, by omega⟩
  | gap last => obtain ⟨h1, ⟨a, hn⟩, _⟩ := h; show l.nu = .flat [nA l]; rw [show nA l = a from by unfold nA; rw [hn]; rfl]; exact hn
  | held es => obtain ⟨h1, ⟨a, hn⟩, _⟩ := h; show l.nu = .flat [nA l]; rw [show nA l = a from by unfold nA; rw [hn]; rfl]; exact hn
  | pool es => obtain ⟨⟨a, sh, hn⟩, _⟩ := h; show l.nu = .pool (nA l) (shL l); rw [show nA l = a from by unfold nA; rw [hn], show shL l = sh from by unfold shL; rw [hn]]; exact hn
/-- a key that a meter does not hold -/
def FreshM (k : Str) : MSt4 → Prop
  | .held es => k ∉ keysH es
  | .pool es => k ∉ es.map keyE
  | _ => True
theorem KeepM.fresh {l : Lm} {xs : List Q4} {gone : List Str} {mo : Int} {st : MSt4} {k : Str} (h : KeepM l xs gone mo st) (hk : k ∉ xs.map (·.1)) : FreshM k st := by
  have hh : ∀ q ∈ held4 l xs gone, q.1 ≠ k := fun q hq e => hk (List.mem_map.mpr ⟨q, (List.mem_filter.mp (List.mem_filter.mp hq).1).1, e⟩)
  cases st with
  | held es =>
    obtain ⟨_, _, rfl⟩ := h
    show k ∉ keysH (hE (held4 l xs gone))
    unfold keysH hE
    rw [List.map_map]
    intro z
    obtain ⟨q, hq, e⟩ := List.mem_map.mp z
    exact hh q hq e
  | pool es =>
    obtain ⟨_, rfl⟩ := h
    show k ∉ ((held4 l xs gone).map e34).map keyE
    rw [List.map_map]
    intro z
    obtain ⟨q, hq, e⟩ := List.mem_map.mp z
    exact hh q hq e
  | _ => trivial
theorem letM_kind {l : Lm} {k g : Str} {c t : Int} {st : MSt4} : kindM (letM l k g c t st) = kindM st := by
  unfold letM
  split
  · cases st <;> rfl
  · rfl
theorem letW_len {t m c : Int} {ps : List MC} : (letW t m c ps).length ≤ ps.length + 1 := by
  have h : (live t m ps).length ≤ ps.length := List.length_filter_le _ _
  unfold letW
  cases (live t m ps).getLast? with
  | none =>
    dsimp only
    rw [List.length_append]
    show (live t m ps).length + 1 ≤ _
    omega
  | some r =>
    dsimp only
    split
    · rw [List.length_append, List.length_dropLast]
      show (live t m ps).length - 1 + 1 ≤ _
      omega
    · rw [List.length_append]
      show (live t m ps).length + 1 ≤ _
      omega
theorem letM_size {l : Lm} {k g : Str} {c t : Int} {st : MSt4} : sizeM (letM l k g c t st) ≤ sizeM st + 1 := by
  unfold letM
  split
  · cases st with
    | win ps => exact letW_len
    | held es => show (es ++ [(k, c)]).length ≤ _; rw [List.length_append]; exact Nat.le_refl _
    | pool es => show (es ++ [(k, (g, c))]).length ≤ _; rw [List.length_append]; exact Nat.le_refl _
    | _ => exact Nat.zero_le _
  · omega
/-! ### a keeper in the heap -/
structure MRec where
  t : Addr
  m : Addr
  p : Addr
  F : List Addr
  l : Lm
  st : MSt4
def MRec.rV (r : MRec) : V := .ref r.t
def OneAtM (K : PySem.W.Frag) (C : Nat → Addr) (H : Hp) (r : MRec) : Prop := SqT K H r.t [.str r.l.nm, .ref r.m] ∧ MetAt K C H r.m r.p r.F r.l r.st ∧ LmAt K H r.p r.l ∧ r.l.Ok
def MsAt (K : PySem.W.Frag) (C : Nat → Addr) (H : Hp) (ms : List MRec) : Prop := (∀ r ∈ ms, OneAtM K C H r) ∧ ms.Pairwise fun x y => ∀ b ∈ x.F, b ∉ y.F
def Fs (ms : List MRec) : List Addr := ms.flatMap (·.F)
theorem mem_Fs {ms : List MRec} {b : Addr} : b ∈ Fs ms ↔ ∃ r ∈ ms, b ∈ r.F := List.mem_flatMap
section
variable {K : PySem.W.Frag} {C : Nat → Addr} {H H' : Hp} {ms : List MRec} {r : MRec} {G : List Addr}
theorem OneAtM.mono (h : OneAtM K C H r) (e : Ex H H') : OneAtM K C H' r := ⟨ex_sqT e h.1, h.2.1.mono e, h.2.2.1.mono e, h.2.2.2⟩
theorem OneAtM.frame (h : OneAtM K C H r) (e : ExF G H H') (hG : ∀ b ∈ G, Box H b) (hd : ∀ b ∈ r.F, b ∉ G) : OneAtM K C H' r := ⟨e.sqT hG h.1, h.2.1.frame e hG hd, e.lm hG h.2.2.1, h.2.2.2⟩
theorem MsAt.mono (h : MsAt K C H ms) (e : Ex H H') : MsAt K C H' ms := ⟨fun r hr => (h.1 r hr).mono e, h.2⟩
theorem MsAt.frame (h : MsAt K C H ms) (e : ExF G H H') (hG : ∀ b ∈ G, Box H b) (hd : ∀ b ∈ Fs ms, b ∉ G) : MsAt K C H' ms := ⟨fun r hr => (h.1 r hr).frame e hG fun b hb => hd b (mem_Fs.mpr ⟨r, hr, hb⟩), h.2⟩
theorem MsAt.box (h : MsAt K C H ms) : ∀ b ∈ Fs ms, Box H b := fun b hb => by
  obtain ⟨r, hr, hb⟩ := mem_Fs.mp hb
  exact (h.1 r hr).2.1.box b hb
/-- one meter changes -/
theorem MsAt.step {A B : List MRec} {st : MSt4} (h : MsAt K C H (A ++ r :: B)) (e : ExF r.F H H') (hM : MetAt K C H' r.m r.p r.F r.l st) : MsAt K C H' (A ++ { r with st := st } :: B) := by
  obtain ⟨h1, h2⟩ := h
  obtain ⟨p1, p2, p3⟩ := List.pairwise_append.mp h2
  obtain ⟨p4, p5⟩ := List.pairwise_cons.mp p2
  have hr := h1 r (List.mem_append.mpr (.inr List.mem_cons_self))
  have hb := hr.2.1.box
  refine ⟨fun x hx => ?_, List.pairwise_append.mpr ⟨p1, List.pairwise_cons.mpr ⟨p4, p5⟩, fun x hx y hy => ?_⟩⟩
  · rcases List.mem_append.mp hx with hx | hx
    · exact (h1 x (List.mem_append.mpr (.inl hx))).frame e hb (p3 x hx r List.mem_cons_self)
    · rcases List.mem_cons.mp hx with rfl | hx
      · exact ⟨e.sqT hb hr.1, hM, e.lm hb hr.2.2.1, hr.2.2.2⟩
      · exact (h1 x (List.mem_append.mpr (.inr (List.mem_cons_of_mem _ hx)))).frame e hb fun b hb1 hb2 => p4 x hx b hb2 hb1
  · rcases List.mem_cons.mp hy with rfl | hy
    · exact p3 x hx r List.mem_cons_self
    · exact p3 x hx y (List.mem_cons_of_mem _ hy)
end
/-- what is asked -/
structure ARec where
  k : Str
  g : Str
  c : Int
  t : Int
  lk : List Str
  e : Option Int
def askK (as : List (Addr × ARec)) : List (Key × V) := kvsG (fun x : Addr × ARec => x.2.k) (fun x => V.ref x.1) as
def AskAt (K : PySem.W.Frag) (H : Hp) (as : List (Addr × ARec)) : Prop := ∀ x ∈ as, ∃ pl : Addr, SqT K H x.1 [.str x.2.g, .int x.2.c, .int x.2.t, .ref pl, oN x.2.e] ∧ SqT K H pl (x.2.lk.map V.str)
theorem AskAt.mono {K : PySem.W.Frag} {H H' : Hp} {as : List (Addr × ARec)} (h : AskAt K H as) (e : Ex H H') : AskAt K H' as := fun x hx => by
  obtain ⟨pl, h1, h2⟩ := h x hx
  exact ⟨pl, ex_sqT e h1, ex_sqT e h2⟩
theorem AskAt.frame {K : PySem.W.Frag} {H H' : Hp} {as : List (Addr × ARec)} {G : List Addr} (h : AskAt K H as) (e : ExF G H H') (hG : ∀ b ∈ G, Box H b) : AskAt K H' as := fun x hx => by
  obtain ⟨pl, h1, h2⟩ := h x hx
  exact ⟨pl, e.sqT hG h1, e.sqT hG h2⟩
def relK (rs : List Str) : List (Key × V) := kvsG (fun z : Str => z) (fun _ => V.bl true) rs
def flK (b : Addr) (mo : Option Int) (pM pA pR : Addr) : List (Str × V) := [("book", .ref b), ("moment", oN mo), ("_meters", .ref pM), ("_asked", .ref pA), ("_released", .ref pR)]
/-- where a keeper lies -/
structure KAd where
  kp : Addr
  b : Addr
  pM : Addr
  pA : Addr
  pR : Addr
def FK (z : KAd) (ms : List MRec) : List Addr := z.kp :: z.pA :: z.pR :: Fs ms
structure KprAt (K : PySem.W.Frag) (C : Nat → Addr) (CK : Addr) (H : Hp) (z : KAd) (ms : List MRec) (mo : Option Int) (as : List (Addr × ARec)) (rs : List Str) : Prop where
  hk : ∃ dx, H z.kp = some (.ins CK dx (flK z.b mo z.pM z.pA z.pR))
  hM : H z.pM = some (.lst (ms.map MRec.rV))
  hms : MsAt K C H ms
  hA : H z.pA = some (.dK (askK as))
  hAs : AskAt K H as
  hR : H z.pR = some (.dK (relK rs))
  ne : z.pA ≠ z.pR
  nF : ∀ b ∈ Fs ms, b ≠ z.kp ∧ b ≠ z.pA ∧ b ≠ z.pR
section
variable {K : PySem.W.Frag} {C : Nat → Addr} {CK : Addr} {H H' : Hp} {z : KAd} {ms : List MRec} {mo : Option Int} {as : List (Addr × ARec)} {rs : List Str} {G : List Addr}
theorem KprAt.mono (h : KprAt K C CK H z ms mo as rs) (e : Ex H H') : KprAt K C CK H' z ms mo as rs := by
  obtain ⟨⟨dx, h1⟩, h2, h3, h4, h5, h6, h7, h8⟩ := h
  exact ⟨⟨dx, e _ _ h1⟩, e _ _ h2, h3.mono e, e _ _ h4, h5.mono e, e _ _ h6, h7, h8⟩
theorem KprAt.box (h : KprAt K C CK H z ms mo as rs) : ∀ b ∈ FK z ms, Box H b := fun b hb => by
  obtain ⟨dx, h1⟩ := h.hk
  rcases List.mem_cons.mp hb with rfl | hb
  · exact .inl ⟨_, _, _, h1⟩
  · rcases List.mem_cons.mp hb with rfl | hb
    · exact .inr ⟨_, h.hA⟩
    · rcases List.mem_cons.mp hb with rfl | hb
      · exact .inr ⟨_, h.hR⟩
      · exact h.hms.box b hb
theorem KprAt.frame (h : KprAt K C CK H z ms mo as rs) (e : ExF G H H') (hG : ∀ b ∈ G, Box H b) (hd : ∀ b ∈ FK z ms, b ∉ G) : KprAt K C CK H' z ms mo as rs := by
  obtain ⟨⟨dx, h1⟩, h2, h3, h4, h5, h6, h7, h8⟩ := h
  have m2 : ∀ {b}, b ∈ z.pA :: z.pR :: Fs ms → b ∈ FK z ms := fun hb => List.mem_cons_of_mem _ hb
  exact ⟨⟨dx, e _ _ (hd _ List.mem_cons_self) h1⟩, e.lst hG h2, h3.frame e hG fun b hb => hd b (m2 (List.mem_cons_of_mem _ (List.mem_cons_of_mem _ hb))), e _ _ (hd _ (m2 List.mem_cons_self)) h4, h5.frame e hG, e _ _ (hd _ (m2 (List.mem_cons_of_mem _ List.mem_cons_self))) h6, h7, h8⟩
end
/-- what the meters say -/
def lackK (ms : List MRec) (g : Str) (c t : Int) : List Str := (ms.filter fun r => !roomM r.l g c t r.st).map fun r => r.l.nm
def earlK (ms : List MRec) (g : Str) (c t : Int) : List (Option Int) := ms.map fun r => earlM r.l g c t r.st
def letK (ms : List MRec) (k g : Str) (c t : Int) : List MRec := ms.map fun r => { r with st := letM r.l k g c t r.st }
theorem letK_Fs {ms : List MRec} {k g : Str} {c t : Int} : Fs (letK ms k g c t) = Fs ms := by
  unfold Fs letK
  rw [List.flatMap_map]
theorem letK_rV {ms : List MRec} {k g : Str} {c t : Int} : (letK ms k g c t).map MRec.rV = ms.map MRec.rV := by
  unfold letK
  rw [List.map_map]
  rfl
/-- what stands before a meter may be asked -/
def ReadyM (ms : List MRec) (k : Str) : Prop := ∀ r ∈ ms, ShapeM r.l r.st ∧ sizeM r.st ≤ 900 ∧ FreshM k r.st
/-- the greatest of the earliest moments -/
def BestOf (es : List (Option Int)) (E : Option Int) : Prop := (none ∈ es ∧ E = none) ∨ (none ∉ es ∧ ∃ m, E = some m ∧ (∀ e, some e ∈ es → e ≤ m) ∧ some m ∈ es)
/-! ### a keeper is made, and asked -/
theorem isKey_len {z : Str} (h : isKey z = true) : z.length ≤ 20 := by
  unfold isKey at h
  simp only [Bool.and_eq_true, decide_eq_true_eq] at h
  omega
theorem drop_at {α : Type} {xs : List α} {i : Nat} {r : α} (e : xs[i]? = some r) : xs.drop i = r :: xs.drop (i + 1) := by
  obtain ⟨h, rfl⟩ := List.getElem?_eq_some_iff.mp e
  exact List.drop_eq_getElem_cons h
theorem MetAt.updN {K : PySem.W.Frag} {C : Nat → Addr} {H : Hp} {m p D : Addr} {F : List Addr} {l : Lm} {st : MSt4} {o : HO} (h : MetAt K C H m p F l st) (hne : ∀ b ∈ F, b ≠ D) (hw : st = .span 0 0 ∨ st = .buck 0 0 ∨ st = .gap none ∨ st = .held [] ∨ st = .pool []) : MetAt K C (upd H D o) m p F l st := by
  rcases hw with rfl | rfl | rfl | rfl | rfl
  · obtain ⟨rfl, dx, h2⟩ := h; exact ⟨rfl, dx, by rw [upd_ne (hne m List.mem_cons_self)]; exact h2⟩
  · obtain ⟨rfl, dx, h2⟩ := h; exact ⟨rfl, dx, by rw [upd_ne (hne m List.mem_cons_self)]; exact h2⟩
  · obtain ⟨rfl, dx, h2⟩ := h; exact ⟨rfl, dx, by rw [upd_ne (hne m List.mem_cons_self)]; exact h2⟩
  · obtain ⟨dx, d, rfl, h2⟩ := h
    exact ⟨dx, d, rfl, by rw [upd_ne (hne m List.mem_cons_self)]; exact h2.hm, by rw [upd_ne (hne d (List.mem_cons_of_mem _ List.mem_cons_self))]; exact h2.hd⟩
  · obtain ⟨dx, dC, dU, rfl, h2⟩ := h
    obtain ⟨ads, h3, h4, h5⟩ := h2.hc
    obtain rfl : ads = [] := List.map_eq_nil_iff.mp h3
    exact ⟨dx, dC, dU, rfl, by rw [upd_ne (hne m List.mem_cons_self)]; exact h2.hm, ⟨[], rfl, by rw [upd_ne (hne dC (List.mem_cons_of_mem _ List.mem_cons_self))]; exact h4, fun x hx => nomatch hx⟩, by rw [upd_ne (hne dU (List.mem_cons_of_mem _ (List.mem_cons_of_mem _ List.mem_cons_self)))]; exact h2.hu, h2.ne, h2.hg⟩
theorem MetAt.updW {K : PySem.W.Frag} {C : Nat → Addr} {H : Hp} {m p D pS dx : Addr} {l : Lm} {o : HO} (h1 : H m = some (.ins (C 0) dx (flW p (nA l) (nB l) pS))) (h2 : SumsAt K H pS []) (n1 : m ≠ D) (n2 : pS ≠ D) : MetAt K C (upd H D o) m p [m] l (.win []) :=
  ⟨rfl, dx, pS, [], by rw [upd_ne n1]; exact h1, ⟨by rw [upd_ne n2]; exact h2.1, fun x hx => nomatch hx⟩, rfl⟩
theorem ex_upd {H H' : Hp} {D : Addr} {o : HO} (e : Ex H H') : Ex (upd H D o) (upd H' D o) := fun b x hb => by
  by_cases hD : b = D
  · subst hD
    rw [upd_same] at hb ⊢
    exact hb
  · rw [upd_ne hD] at hb ⊢
    exact e b x hb
theorem upd_upd {H : Hp} {D : Addr} {o o2 : HO} : upd (upd H D o) D o2 = upd H D o2 := by
  funext b
  by_cases hD : b = D
  · subst hD; rw [upd_same, upd_same]
  · rw [upd_ne hD, upd_ne hD, upd_ne hD]
theorem upd_is {H : Hp} {D : Addr} {o : HO} (h : H D = some o) : upd H D o = H := by
  funext b
  by_cases hD : b = D
  · subst hD; rw [upd_same, h]
  · rw [upd_ne hD]
section
variable {K : PySem.W.Frag} {C : Nat → Addr} {σ : L2.St} {H : Hp} {Q : VK} {te : TE} {g : TG} {vs : List Nat}
/-! what a window's list is not -/
def NS (H : Hp) (m D : Addr) : Prop := ∀ C dx x y z pS, H m = some (.ins C dx (flW x y z pS)) → pS ≠ D
def NSs (H : Hp) (ms : List MRec) (D : Addr) : Prop := ∀ r ∈ ms, NS H r.m D
theorem flW_inj {x x' : Addr} {y z y' z' : Int} {p p' : Addr} (h : flW x y z p = flW x' y' z' p') : p = p' := by
  have h1 := congrArg (fun l : List (Str × V) => l[3]?) h
  have h2 : some (("_sums" : Str), V.ref p) = some (("_sums" : Str), V.ref p') := h1
  injection h2 with h3
  injection h3 with _ h4
  injection h4
section
variable {K : PySem.W.Frag} {C : Nat → Addr} {CK : Addr} {H H' : Hp} {m p D : Addr} {F : List Addr} {l : Lm} {st : MSt4} {z : KAd} {ms : List MRec} {mo : Option Int} {as : List (Addr × ARec)} {rs : List Str}
theorem NS.winI {C dx x : Addr} {y z : Int} {pS : Addr} (h : H m = some (.ins C dx (flW x y z pS))) (hn : pS ≠ D) : NS H m D := fun C2 dx2 x2 y2 z2 p2 h2 => by
  rw [h] at h2
  injection h2 with h2
  injection h2 with _ _ h2
  rw [← flW_inj h2]
  exact hn
theorem NS.kind (h : MetAt K C H m p F l st) (hk : kindM st ≠ 0) : NS H m D := fun C2 dx2 x2 y2 z2 p2 h2 => by
  exfalso
  have no : ∀ {fs : List (Str × V)}, fs.map Prod.fst ≠ [("limit" : Str), "_most", "_length", "_sums"] → fs ≠ flW x2 y2 z2 p2 := fun hf e => hf (by rw [e]; rfl)
  cases st with
  | win ps => exact hk rfl
  | span sp us =>
    obtain ⟨_, dx, h1⟩ := h
    rw [h1] at h2; injection h2 with h2; injection h2 with _ _ h2
    exact no (by show [("limit" : Str), "_most", "_length", "_span", "_used"] ≠ _; decide +kernel) h2
  | buck mi at_ =>
    obtain ⟨_, dx, h1⟩ := h
    rw [h1] at h2; injection h2 with h2; injection h2 with _ _ h2
    exact no (by show [("limit" : Str), "_size", "_every", "_missing", "_moment"] ≠ _; decide +kernel) h2
  | gap last =>
    obtain ⟨_, dx, h1⟩ := h
    rw [h1] at h2; injection h2 with h2; injection h2 with _ _ h2
    exact no (by show [("limit" : Str), "_ticks", "_last"] ≠ _; decide +kernel) h2
  | held es =>
    obtain ⟨dx, d, _, h1⟩ := h
    rw [h1.hm] at h2; injection h2 with h2; injection h2 with _ _ h2
    exact no (by show [("limit" : Str), "_most", "_costs", "_used"] ≠ _; decide +kernel) h2
  | pool es =>
    obtain ⟨dx, dC, dU, _, h1⟩ := h
    rw [h1.hm] at h2; injection h2 with h2; injection h2 with _ _ h2
    exact no (by show [("limit" : Str), "_costs", "_uses"] ≠ _; decide +kernel) h2
theorem NS.of_new (h : MetAt K C H m p F l st) (hD : H D = none) : NS H m D := by
  cases st with
  | win ps =>
    obtain ⟨_, dx, pS, qs, h1, h2, _⟩ := h
    exact NS.winI h1 fun e => by have := h2.1; rw [e, hD] at this; cases this
  | span sp us => exact NS.kind h (by show (1 : Nat) ≠ 0; decide)
  | buck mi at_ => exact NS.kind h (by show (2 : Nat) ≠ 0; decide)
  | gap last => exact NS.kind h (by show (3 : Nat) ≠ 0; decide)
  | held es => exact NS.kind h (by show (4 : Nat) ≠ 0; decide)
  | pool es => exact NS.kind h (by show (5 : Nat) ≠ 0; decide)
theorem NS.same (h : NS H m D) (e : H' m = H m) : NS H' m D := fun C2 dx2 x2 y2 z2 p2 h2 => h C2 dx2 x2 y2 z2 p2 (by rw [← e]; exact h2)
theorem MetAt.at (h : MetAt K C H m p F l st) : ∃ o, H m = some o ∧ m ∈ F := by
  obtain ⟨dx, fs, h1, h2, _⟩ := h.ins
  exact ⟨_, h1, h2⟩
theorem MetAt.updL {acc : List V} {o : HO} (h : MetAt K C H m p F l st) (hD : H D = some (.lst acc)) (hn : NS H m D) : MetAt K C (upd H D o) m p F l st := by
  have hb : ∀ b ∈ F, b ≠ D := fun b hb e => by
    rcases h.box b hb with ⟨_, _, _, w⟩ | ⟨_, w⟩ <;> (rw [e, hD] at w; cases w)
  cases st with
  | win ps =>
    obtain ⟨rfl, dx, pS, qs, h1, h2, h3⟩ := h
    exact ⟨rfl, dx, pS, qs, by rw [upd_ne (hb m List.mem_cons_self)]; exact h1, ⟨by rw [upd_ne (hn _ _ _ _ _ _ h1)]; exact h2.1, fun x hx => sqT_upd hD (h2.2 x hx)⟩, h3⟩
  | span sp us => obtain ⟨rfl, dx, h1⟩ := h; exact ⟨rfl, dx, by rw [upd_ne (hb m List.mem_cons_self)]; exact h1⟩
  | buck mi at_ => obtain ⟨rfl, dx, h1⟩ := h; exact ⟨rfl, dx, by rw [upd_ne (hb m List.mem_cons_self)]; exact h1⟩
  | gap last => obtain ⟨rfl, dx, h1⟩ := h; exact ⟨rfl, dx, by rw [upd_ne (hb m List.mem_cons_self)]; exact h1⟩
  | held es =>
    obtain ⟨dx, d, rfl, h1⟩ := h
    exact ⟨dx, d, rfl, by rw [upd_ne (hb m List.mem_cons_self)]; exact h1.hm, by rw [upd_ne (hb d (List.mem_cons_of_mem _ List.mem_cons_self))]; exact h1.hd⟩
  | pool es =>
    obtain ⟨dx, dC, dU, rfl, h1⟩ := h
    obtain ⟨ads, h3, h4, h5⟩ := h1.hc
    exact ⟨dx, dC, dU, rfl, by rw [upd_ne (hb m List.mem_cons_self)]; exact h1.hm, ⟨ads, h3, by rw [upd_ne (hb dC (List.mem_cons_of_mem _ List.mem_cons_self))]; exact h4, fun x hx => sqT_upd hD (h5 x hx)⟩, by rw [upd_ne (hb dU (List.mem_cons_of_mem _ (List.mem_cons_of_mem _ List.mem_cons_self)))]; exact h1.hu, h1.ne, h1.hg⟩
theorem MsAt.updL {acc : List V} {o : HO} (h : MsAt K C H ms) (hD : H D = some (.lst acc)) (hn : NSs H ms D) : MsAt K C (upd H D o) ms :=
  ⟨fun r hr => ⟨sqT_upd hD (h.1 r hr).1, (h.1 r hr).2.1.updL hD (hn r hr), (h.1 r hr).2.2.1.tr fun q vs y => sqT_upd hD y, (h.1 r hr).2.2.2⟩, h.2⟩
/-- a strange list changes -/
theorem KprAt.updL {acc : List V} {o : HO} (h : KprAt K C CK H z ms mo as rs) (hD : H D = some (.lst acc)) (hM : D ≠ z.pM) (hn : NSs H ms D) : KprAt K C CK (upd H D o) z ms mo as rs := by
  have hb : ∀ b ∈ FK z ms, b ≠ D := fun b hb e => by
    rcases h.box b hb with ⟨_, _, _, w⟩ | ⟨_, w⟩ <;> (rw [e, hD] at w; cases w)
  obtain ⟨⟨dx, h1⟩, h2, h3, h4, h5, h6, h7, h8⟩ := h
  refine ⟨⟨dx, by rw [upd_ne (hb _ List.mem_cons_self)]; exact h1⟩, by rw [upd_ne hM.symm]; exact h2, h3.updL hD hn, by rw [upd_ne (hb _ (List.mem_cons_of_mem _ List.mem_cons_self))]; exact h4, fun x hx => ?_, by rw [upd_ne (hb _ (List.mem_cons_of_mem _ (List.mem_cons_of_mem _ List.mem_cons_self)))]; exact h6, h7, h8⟩
  obtain ⟨pl, k1, k2⟩ := h5 x hx
  exact ⟨pl, sqT_upd hD k1, sqT_upd hD k2⟩
theorem NSs.frame {G : List Addr} (h : NSs H ms D) (hM : MsAt K C H ms) (e : ExF G H H') (hd : ∀ b ∈ Fs ms, b ∉ G) : NSs H' ms D := fun r hr => by
  obtain ⟨o, h1, h2⟩ := (hM.1 r hr).2.1.at
  exact (h r hr).same ((e _ _ (hd _ (mem_Fs.mpr ⟨r, hr, h2⟩)) h1).trans h1.symm)
theorem NSs.mono (h : NSs H ms D) (hM : MsAt K C H ms) (e : Ex H H') : NSs H' ms D := h.frame (G := []) hM (ExF.of e) (fun _ _ y => nomatch y)
theorem NSs.of_new (hM : MsAt K C H ms) (hD : H D = none) : NSs H ms D := fun r hr => NS.of_new (hM.1 r hr).2.1 hD
theorem NSs.upd {D2 : Addr} {acc : List V} {o : HO} (h : NSs H ms D) (hM : MsAt K C H ms) (hD : H D2 = some (.lst acc)) : NSs (upd H D2 o) ms D := fun r hr => by
  obtain ⟨x, h1, h2⟩ := (hM.1 r hr).2.1.at
  have hb : r.m ≠ D2 := fun e => by
    rcases (hM.1 r hr).2.1.box r.m h2 with ⟨_, _, _, w⟩ | ⟨_, w⟩ <;> (rw [e, hD] at w; cases w)
  exact (h r hr).same (upd_ne hb)
theorem NSs.congr {ms' : List MRec} (h : NSs H ms D) (e : ms'.map (·.m) = ms.map (·.m)) : NSs H ms' D := fun r hr => by
  have h1 : r.m ∈ ms'.map (·.m) := List.mem_map.mpr ⟨r, hr, rfl⟩
  rw [e] at h1
  obtain ⟨r2, h2, h3⟩ := List.mem_map.mp h1
  rw [← h3]
  exact h r2 h2
theorem letK_m {k g : Str} {c t : Int} : (letK ms k g c t).map (·.m) = ms.map (·.m) := by
  unfold letK
  rw [List.map_map]
  rfl
theorem MsAt.stepNS {A B : List MRec} {r : MRec} (h : MsAt K C H (A ++ r :: B)) (e : ExF r.F H H') (hn : NS H' r.m D) (hs : NSs H (A ++ r :: B) D) : NSs H' (A ++ r :: B) D := by
  obtain ⟨h1, h2⟩ := h
  obtain ⟨p1, p2, p3⟩ := List.pairwise_append.mp h2
  obtain ⟨p4, p5⟩ := List.pairwise_cons.mp p2
  intro x hx
  have hx0 := hs x hx
  obtain ⟨o, k1, k2⟩ := (h1 x hx).2.1.at
  rcases List.mem_append.mp hx with hx | hx
  · exact hx0.same ((e _ _ (p3 x hx r List.mem_cons_self _ k2) k1).trans k1.symm)
  · rcases List.mem_cons.mp hx with rfl | hx
    · exact hn
    · exact hx0.same ((e _ _ (fun y => p4 x hx _ y k2) k1).trans k1.symm)
theorem exF_some {G : List Addr} (e : ExF G H H') (hb : ∀ b ∈ G, Box H' b) (h : H D ≠ none) : H' D ≠ none := fun y => by
  cases hq : H D with
  | none => exact h hq
  | some o =>
    by_cases hD : D ∈ G
    · rcases hb D hD with ⟨_, _, _, w⟩ | ⟨_, w⟩ <;> (rw [y] at w; cases w)
    · rw [e _ _ hD hq] at y; cases y
theorem ex_some {b : Addr} (e : Ex H H') (h : H b ≠ none) : H' b ≠ none := exF_some (G := []) (ExF.of e) (fun _ y => nomatch y) h
end
/-- isinstance of an own class that is the object's own -/
structure OwnIs (K : PySem.W.Frag) (C : Addr) : Prop where
  cl : Cls K C
  ha : PySem.W.findIn K (.ref C) "__class__" = some (some (.builtin "object.__class__"))
  hn : PySem.W.specialIn K (.builtin "object.__class__") "__get__" = some (some (.builtin "getset_descriptor.__get__"))
  htk : PySem.W.takesIn K (.builtin "object.__class__") = some true
  hm : PySem.W.mroIn K C (.type "object") = some true
  me : PySem.W.kitOne K (.ref C) (.ref C) = some true
def rIsO (C : Addr) : List V → Hp → VK → Prop := fun xs H Q => ∃ a dx fs, xs = [.ref a, .ref C] ∧ H a = some (.ins C dx fs) ∧ Q (.bl true) H
theorem call_isO {X : Cx} {K : PySem.W.Frag} {C : Addr} (hK : X.K = K) (c : OwnIs K C) : CallR X (.builtin "isinstance") (rIsO C) := by
  subst hK
  intro pins s σ H xs us Q I r h
  obtain ⟨a, dx, fs, rfl, ha, q⟩ := h
  obtain ⟨u, w', rfl, ru, rw'⟩ := vals2 r
  cases rw'
  exact isinst_ok I ru (TyOf.ins ha c.cl c.ha c.hn c.htk c.hm) c.me fun tk => ⟨.bl true, H, I.tok _, rfl, q⟩
theorem g_isO {H : Hp} {Q : VK} {a C dx : Addr} {fs : List (Str × V)} (h : H a = some (.ins C dx fs)) (q : Q (.bl true) H) : rIsO C [.ref a, .ref C] H Q := ⟨a, dx, fs, rfl, h, q⟩
def rLenD : List V → Hp → VK → Prop := fun xs H Q => ∃ a kvs, xs = [V.ref a] ∧ H a = some (.dK kvs) ∧ Q (.int kvs.length) H
theorem call_lenDN {X : Cx} : CallR X (.builtin "len") rLenD := call_lenD
theorem g_lenD {H : Hp} {Q : VK} {a : Addr} {kvs : List (Key × V)} (h : H a = some (.dK kvs)) (q : Q (.int kvs.length) H) : rLenD [.ref a] H Q := ⟨a, kvs, rfl, h, q⟩
theorem askK_len {as : List (Addr × ARec)} : (askK as).length = as.length := by unfold askK kvsG; rw [List.length_map]
theorem exP_none {m b : Addr} {H H' : Hp} (e : ExP m H H') (hb : b ≠ m) (h : H' b = none) : H b = none := by
  cases hq : H b with
  | none => rfl
  | some o => rw [e b o hb hq] at h; cases h
theorem flK_new {b pM pA pR : Addr} : putF "_released" (.ref pR) (putF "_asked" (.ref pA) (putF "_meters" (.ref pM) (putF "moment" .non (putF "book" (.ref b) [])))) = flK b none pM pA pR := by rfl
theorem flK_mo {b pM pA pR : Addr} {mo : Option Int} {t : Int} : putF "moment" (.int t) (flK b mo pM pA pR) = flK b (some t) pM pA pR := by rfl
/-- the comprehension that makes the meters of a keeper -/
theorem lc_keep {a : Addr} {xs : List (Addr × Lm)} (hS : SqL K H a (xs.map lV)) (hn : xs.length ≤ 1000)
    (hs : ∀ x ∈ xs, ∀ H1, Ex H H1 → ∀ R : VK, (∀ (r : MRec) H3, Ex H1 H3 → r.l = x.2 → r.st = newM r.l → (∀ b ∈ r.F, H1 b = none) → (∀ D acc, H1 D = some (.lst acc) → ∀ o, OneAtM K C (upd H3 D o) r) → R r.rV H3) → g (lV x) (wipe σ vs) H1 fun σ2 H3 => wipe σ2 vs = wipe σ vs ∧ te σ2 H3 R)
    (hq : ∀ p H' (ms : List MRec), H p = none → Ex H H' → H' p = some (.lst (ms.map MRec.rV)) → ms.map (·.l) = xs.map (·.2) → (∀ r ∈ ms, r.st = newM r.l) → (∀ b ∈ Fs ms, H b = none) → MsAt K C H' ms → Q (.ref p) H') : LcOk (Itl K a) g tYes te vs Q σ H := by
  intro D hD
  refine lc_it (walk_list (xs := xs.map lV)) (fun i H' => ∃ ms : List MRec, Ex H H' ∧ H' D = some (.lst (ms.map MRec.rV)) ∧ ms.map (·.l) = (xs.take i).map (·.2) ∧ (∀ r ∈ ms, r.st = newM r.l) ∧ (∀ b ∈ Fs ms, H b = none) ∧ ∀ o, MsAt K C (upd H' D o) ms) ⟨[], Evl.Ex.new hD, upd_same, rfl, (fun z hz => nomatch hz), (fun z hz => nomatch hz), fun o => ⟨(fun z hz => nomatch hz), List.Pairwise.nil⟩⟩ (fun i H' _ h => by obtain ⟨_, hE, _⟩ := h; exact ex_sqL hE hS) (fun i x H1 H2 hi hP hY => ?_) (fun H' h => ?_)
  · obtain ⟨ms, hE, hL, hl, hst, hF, hM⟩ := hP
    obtain ⟨rfl, hx⟩ := hY
    rw [List.getElem?_map] at hx
    cases e : xs[i]? with
    | none => rw [e] at hx; cases hx
    | some y =>
      rw [e] at hx
      have ex : lV y = x := Option.some.inj hx
      subst ex
      have hT : xs.take (i + 1) = xs.take i ++ [y] := by rw [List.take_add_one, e]; rfl
      have hle : ms.length ≤ xs.length := by
        have h1 := congrArg List.length hl
        rw [List.length_map, List.length_map, List.length_take] at h1
        omega
      have hM1 : MsAt K C H2 ms := by have := hM (.lst (ms.map MRec.rV)); rw [upd_is hL] at this; exact this
      refine hs y (List.mem_of_getElem? e) _ hE _ (fun r H3 e3 hrl hrs hrF hrD => ?_)
      refine ⟨_, e3 _ _ hL, fits_lt (by rw [List.length_map]; omega), ms ++ [r], Evl.Ex.mut (hE.trans e3) hD, ?_, ?_, fun x hx => ?_, fun b hb => ?_, fun o => ?_⟩
      · rw [upd_same, List.map_append]
        rfl
      · rw [List.map_append, hl, hT, List.map_append]
        show _ ++ [r.l] = _
        rw [hrl]
        rfl
      · rcases List.mem_append.mp hx with hx | hx
        · exact hst x hx
        · rw [List.mem_singleton.mp hx]; exact hrs
      · obtain ⟨x, hx, hb⟩ := mem_Fs.mp hb
        rcases List.mem_append.mp hx with hx | hx
        · exact hF b (mem_Fs.mpr ⟨x, hx, hb⟩)
        · rw [List.mem_singleton.mp hx] at hb
          exact ex_free hE (hrF b hb)
      · rw [upd_upd]
        have h1 := (hM o).mono (ex_upd (D := D) (o := o) e3)
        refine ⟨fun x hx => ?_, List.pairwise_append.mpr ⟨h1.2, List.pairwise_singleton _ _, fun x hx y hy b hb hb2 => ?_⟩⟩
        · rcases List.mem_append.mp hx with hx | hx
          · exact h1.1 x hx
          · rw [List.mem_singleton.mp hx]; exact hrD D _ hL o
        · rw [List.mem_singleton.mp hy] at hb2
          have hbx := hM1.box b (mem_Fs.mpr ⟨x, hx, hb⟩)
          rcases hbx with ⟨_, _, _, z⟩ | ⟨_, z⟩ <;> (rw [hrF b hb2] at z; cases z)
  · obtain ⟨ms, hE, hL, hl, hst, hF, hM⟩ := h
    rw [List.length_map, List.take_of_length_le (Nat.le_refl _)] at hl
    exact hq D H' ms hD hE hL hl hst hF (by have := hM (.lst (ms.map MRec.rV)); rw [upd_is hL] at this; exact this)
end
section
variable {K : PySem.W.Frag} {H : Hp} {Q : VK} {p : Addr} {es : List (Option Int)}
theorem flat_oN : (es.map oN).all flatV = true := by
  rw [List.all_eq_true]
  intro x hx
  obtain ⟨y, _, rfl⟩ := List.mem_map.mp hx
  cases y <;> rfl
theorem inV_noneO : inV .non (es.map oN) = decide (none ∈ es) := by
  unfold inV
  rw [Bool.eq_iff_iff, List.any_eq_true, decide_eq_true_eq]
  constructor
  · rintro ⟨x, hx, h⟩
    obtain ⟨y, hy, rfl⟩ := List.mem_map.mp hx
    cases y with
    | none => exact hy
    | some m => simp [oN, eqV] at h
  · intro h
    exact ⟨_, List.mem_map.mpr ⟨none, h, rfl⟩, by simp [oN, eqV]⟩
theorem g_inNoneO (h : SqL K H p (es.map oN)) (q : Q (.bl (decide (none ∈ es))) H) : rIn K false .non (.ref p) H Q := ⟨p, _, rfl, .inl h, rfl, flat_oN, by rw [inV_noneO]; exact q⟩
theorem map_oN (h : none ∉ es) : es.map oN = (es.map fun e => e.getD 0).map V.int := by
  rw [List.map_map]
  refine List.map_congr_left fun x hx => ?_
  cases x with
  | none => exact absurd hx h
  | some m => rfl
theorem best_max (h : none ∉ es) (h0 : es ≠ []) : BestOf es (some (maxI (es.map fun e => e.getD 0))) := by
  obtain ⟨h1, h2⟩ := maxI_is (xs := es.map fun e => e.getD 0) (fun z => h0 (List.map_eq_nil_iff.mp z))
  refine .inr ⟨h, _, rfl, fun e he => h2 _ (List.mem_map.mpr ⟨some e, he, rfl⟩), ?_⟩
  obtain ⟨e, he, h3⟩ := List.mem_map.mp h1
  rw [← h3]
  cases e with
  | none => exact absurd he h
  | some m => exact he
end
/-! ### what a keeper says: plain law -/
structure KpS (ls : List (Addr × Lm)) (ms : List MRec) (xs : List Q4) (gone : List Str) (mo : Int) : Prop where
  hl : ms.map (·.l) = (sortN ls).map (·.2)
  hk : ∀ r ∈ ms, KeepM r.l xs gone mo r.st
  hz : ∀ r ∈ ms, sizeM r.st ≤ xs.length
  past : Past xs mo
  srt : xs.Pairwise fun p q => p.2.2.2 ≤ q.2.2.2
section
variable {ls : List (Addr × Lm)} {ms : List MRec} {xs : List Q4} {gone : List Str} {mo t c : Int} {k g : Str} {E : Option Int}
theorem KpS.len (h : KpS ls ms xs gone mo) : ms.length = ls.length := by
  have h1 := congrArg List.length h.hl
  rw [List.length_map, List.length_map, (sortN_perm ls).length_eq] at h1
  exact h1
theorem KpS.ok (h : KpS ls ms xs gone mo) (hok : ∀ x ∈ ls, x.2.Ok) : ∀ r ∈ ms, r.l.Ok := fun r hr => by
  have h1 : r.l ∈ ms.map (·.l) := List.mem_map.mpr ⟨r, hr, rfl⟩
  rw [h.hl] at h1
  obtain ⟨x, h2, h3⟩ := List.mem_map.mp h1
  rw [← h3]
  exact hok x ((sortN_perm ls).mem_iff.mp h2)
theorem KpS.lack (h : KpS ls ms xs gone mo) (hok : ∀ x ∈ ls, x.2.Ok) (ht : mo ≤ t) : lackK ms g c t = lackOf ls xs gone g c t := by
  have e1 : lackK ms g c t = ((ms.map (·.l)).filter fun l => !roomB l xs gone g c t).map fun l => l.nm := by
    unfold lackK
    rw [List.filter_map, List.map_map]
    have e2 : (ms.filter fun r => !roomM r.l g c t r.st) = ms.filter ((fun l => !roomB l xs gone g c t) ∘ fun r : MRec => r.l) := List.filter_congr fun r hr => by
      show (!roomM r.l g c t r.st) = !roomB r.l xs gone g c t
      rw [(meter_says (g := g) (c := c) (h.ok hok r hr) (h.hk r hr) h.past h.srt ht).1]
    rw [e2]
    rfl
  rw [e1, h.hl, List.filter_map, List.map_map]
  exact names_eq (fun x : Addr × Lm => !roomB x.2 xs gone g c t) (List.Perm.refl ls)
theorem lackB_perm : lackB (sortN ls) xs gone g c = lackB ls xs gone g c := by
  funext u
  unfold lackB
  rw [Bool.eq_iff_iff, List.any_eq_true, List.any_eq_true]
  exact ⟨fun ⟨x, h1, h2⟩ => ⟨x, (sortN_perm ls).mem_iff.mp h1, h2⟩, fun ⟨x, h1, h2⟩ => ⟨x, (sortN_perm ls).mem_iff.mpr h1, h2⟩⟩
theorem KpS.soon (h : KpS ls ms xs gone mo) (hok : ∀ x ∈ ls, x.2.Ok) (hsum : sum4 xs ≤ 1000000) (hc0 : 0 ≤ c) (hc1 : c ≤ 1000) (ht : mo ≤ t) (hB : BestOf (earlK ms g c t) E) : IsSoon (lackB ls xs gone g c) t E := by
  have hone : ∀ r ∈ ms, OneSoon r.l xs gone g c t (earlM r.l g c t r.st) := fun r hr => one_soon (h.ok hok r hr) (h.hk r hr) h.past h.srt ht
  rw [← lackB_perm]
  refine all_soon (es := earlK ms g c t) (fun x hx => hok x ((sortN_perm ls).mem_iff.mp hx)) (fun q hq => ⟨(h.past q hq).1, by have := (h.past q hq).2; omega⟩) hsum hc0 hc1 ?_ (fun i x e hx he => ?_) ?_
  · unfold earlK
    rw [List.length_map, (sortN_perm ls).length_eq]
    exact h.len
  · unfold earlK at he
    rw [List.getElem?_map] at he
    cases hr : ms[i]? with
    | none => rw [hr] at he; cases he
    | some r =>
      rw [hr] at he
      have e1 : earlM r.l g c t r.st = e := Option.some.inj he
      have e2 := congrArg (fun l : List Lm => l[i]?) h.hl
      have e3 : r.l = x.2 := by
        have : (ms.map (·.l))[i]? = ((sortN ls).map (·.2))[i]? := e2
        rw [List.getElem?_map, List.getElem?_map, hr, hx] at this
        exact Option.some.inj this
      rw [← e1, ← e3]
      exact hone r (List.mem_of_getElem? hr)
  · rcases hB with z | ⟨z, m, h1, h2, h3⟩
    · exact .inl z
    · refine .inr ⟨z, m, h1, ?_, h2, .inr h3⟩
      obtain ⟨r, hr, h4⟩ := List.mem_map.mp h3
      have := hone r hr
      rw [h4] at this
      exact this.1
theorem KpS.later {mo' : Int} (h : KpS ls ms xs gone mo) (hok : ∀ x ∈ ls, x.2.Ok) (hm : mo ≤ mo') : KpS ls ms xs gone mo' :=
  ⟨h.hl, fun r hr => later_m (h.ok hok r hr) (h.hk r hr) hm, h.hz, fun q hq => ⟨(h.past q hq).1, by have := (h.past q hq).2; omega⟩, h.srt⟩
theorem KpS.let_ (h : KpS ls ms xs gone mo) (hok : ∀ x ∈ ls, x.2.Ok) (ht : mo ≤ t) (hc : 0 ≤ c) (hk : k ∉ gone) : KpS ls (letK ms k g c t) (xs ++ [(k, g, c, t)]) gone t := by
  have hm : ∀ r ∈ letK ms k g c t, ∃ r0 ∈ ms, r = { r0 with st := letM r0.l k g c t r0.st } := fun r hr => by
    obtain ⟨r0, h1, h2⟩ := List.mem_map.mp hr
    exact ⟨r0, h1, h2.symm⟩
  refine ⟨?_, fun r hr => ?_, fun r hr => ?_, fun q hq => ?_, ?_⟩
  · rw [← h.hl]
    unfold letK
    rw [List.map_map]
    rfl
  · obtain ⟨r0, h1, rfl⟩ := hm r hr
    exact let_m (h.ok hok r0 h1) (h.hk r0 h1) ht hc hk
  · obtain ⟨r0, h1, rfl⟩ := hm r hr
    have h2 := h.hz r0 h1
    have h3 : sizeM (letM r0.l k g c t r0.st) ≤ sizeM r0.st + 1 := letM_size
    rw [List.length_append]
    show sizeM (letM r0.l k g c t r0.st) ≤ xs.length + 1
    omega
  · rcases List.mem_append.mp hq with hq | hq
    · exact ⟨(h.past q hq).1, by have := (h.past q hq).2; omega⟩
    · rw [List.mem_singleton.mp hq]; exact ⟨hc, Int.le_refl _⟩
  · refine List.pairwise_append.mpr ⟨h.srt, List.pairwise_singleton _ _, fun x hx y hy => ?_⟩
    rw [List.mem_singleton.mp hy]
    have := (h.past x hx).2
    show x.2.2.2 ≤ t
    omega
theorem KpS.ready (h : KpS ls ms xs gone mo) (hok : ∀ x ∈ ls, x.2.Ok) (hk : k ∉ xs.map (·.1)) (hl : xs.length ≤ 900) : ReadyM ms k := fun r hr =>
  ⟨(h.hk r hr).shape (h.ok hok r hr), Nat.le_trans (h.hz r hr) hl, (h.hk r hr).fresh hk⟩
theorem KpS.new (h1 : ms.map (·.l) = (sortN ls).map (·.2)) (h2 : ∀ r ∈ ms, r.st = newM r.l) (hok : ∀ x ∈ ls, x.2.Ok) : KpS ls ms [] [] 0 := by
  have hok2 : ∀ r ∈ ms, r.l.Ok := fun r hr => by
    have h3 : r.l ∈ ms.map (·.l) := List.mem_map.mpr ⟨r, hr, rfl⟩
    rw [h1] at h3
    obtain ⟨x, h4, h5⟩ := List.mem_map.mp h3
    rw [← h5]
    exact hok x ((sortN_perm ls).mem_iff.mp h4)
  refine ⟨h1, fun r hr => by rw [h2 r hr]; exact new_m (hok2 r hr), fun r hr => ?_, (fun q hq => nomatch hq), List.Pairwise.nil⟩
  rw [h2 r hr]
  unfold newM
  cases r.l.nu with
  | pool m sh => exact Nat.le_refl _
  | flat ns =>
    dsimp only
    split
    · exact Nat.le_refl _
    · split
      · exact Nat.le_refl _
      · split
        · exact Nat.le_refl _
        · split <;> exact Nat.le_refl _
end
section
variable {K : PySem.W.Frag} {H : Hp} {σ : L2.St} {T p pn : Addr} {x y z u v : V} {i j k l n : Nat} {Qs : L2.St → Hp → Prop}
theorem g_gtup5 (h : SqT K H T [x, y, z, u, v]) (q : Qs (((((σ.set i (some x)).set j (some y)).set k (some z)).set l (some u)).set n (some v)) H) : gTup K 5 (gCons (gName i) (gCons (gName j) (gCons (gName k) (gCons (gName l) (gCons (gName n) gNil))))) (.ref T) σ H Qs :=
  ⟨T, [x, y, z, u, v], rfl, h, rfl, x, [y, z, u, v], rfl, y, [z, u, v], rfl, z, [u, v], rfl, u, [v], rfl, v, [], rfl, rfl, q⟩
/-- the parts of an answer -/
def ansD (k : Str) (mo : Int) (zs : List Str) (e : Option Int) : PyData := .tuple [.str k, .int mo, .tuple (zs.map PyData.str), oD e]
theorem lay_oD {m : Nat} (e : Option Int) : LayD m (oD e) := by
  cases e with
  | none => exact ⟨rfl, Nat.zero_le _⟩
  | some i => exact lay_int i
theorem ansD_lay {k : Str} {mo : Int} {zs : List Str} {e : Option Int} (hk : PyData.strOk k = true) (hz : ∀ z ∈ zs, PyData.strOk z = true) : LayD 2 (ansD k mo zs e) := by
  refine lay_tuple fun d hd => ?_
  simp only [List.mem_cons, List.not_mem_nil, or_false] at hd
  rcases hd with rfl | rfl | rfl | rfl
  · exact lay_str hk
  · exact lay_int _
  · exact lay_tuple fun d hd => by
      obtain ⟨g, hg, rfl⟩ := List.mem_map.mp hd
      exact lay_str (hz g hg)
  · exact lay_oD e
theorem ansD_shaped {k : Str} {mo : Int} {zs : List Str} {e : Option Int} (hk : PyData.strOk k = true) (hz : ∀ z ∈ zs, PyData.strOk z = true) : SeqAt.shaped (ansD k mo zs e) = true := (ansD_lay hk hz).shaped (by decide)
theorem ansD_dp {k : Str} {mo : Int} {zs : List Str} {e : Option Int} (h1 : SqT K H p [.str k, .int mo, .ref pn, oN e]) (h2 : SqT K H pn (zs.map V.str)) : Dp K H (.ref p) (ansD k mo zs e) :=
  .tup h1 (.cons (.str _) (.cons (.int _) (.cons (dp_strsT h2) (.cons (dp_oN _) .nil))))
end
/-! ### a keeper and two lists that grow beside it -/
structure HP2 (K : PySem.W.Frag) (C : Nat → Addr) (CK : Addr) (H0 H : Hp) (z : KAd) (F0 : List Addr) (pq pt : Addr) (ms : List MRec) (mo : Option Int) (as : List (Addr × ARec)) (rs : List Str) (lq lt : List V) : Prop where
  e : ExF (pq :: pt :: z.kp :: z.pA :: z.pR :: F0) H0 H
  b0 : ∀ b ∈ z.kp :: z.pA :: z.pR :: F0, Box H0 b
  l0 : (∃ acc, H0 pq = some (.lst acc)) ∧ ∃ acc, H0 pt = some (.lst acc)
  hF : Fs ms = F0
  hK : KprAt K C CK H z ms mo as rs
  hq : H pq = some (.lst lq)
  ht : H pt = some (.lst lt)
  ne : pq ≠ pt
  q1 : pq ≠ z.pM
  q2 : pt ≠ z.pM
  n1 : NSs H ms pq
  n2 : NSs H ms pt
section
variable {K : PySem.W.Frag} {C : Nat → Addr} {CK : Addr} {H0 H H' : Hp} {z : KAd} {F0 : List Addr} {pq pt p : Addr} {ms ms' : List MRec} {mo mo' : Option Int} {as as' : List (Addr × ARec)} {rs rs' : List Str} {lq lt vs : List V} {v : V}
theorem HP2.start (hK : KprAt K C CK H z ms mo as rs) (hq : H pq = some (.lst lq)) (ht : H pt = some (.lst lt)) (ne : pq ≠ pt) (q1 : pq ≠ z.pM) (q2 : pt ≠ z.pM) (n1 : NSs H ms pq) (n2 : NSs H ms pt) : HP2 K C CK H H z (Fs ms) pq pt ms mo as rs lq lt :=
  ⟨ExF.of (Evl.Ex.refl _), hK.box, ⟨⟨_, hq⟩, ⟨_, ht⟩⟩, rfl, hK, hq, ht, ne, q1, q2, n1, n2⟩
theorem HP2.sqT (h : HP2 K C CK H0 H z F0 pq pt ms mo as rs lq lt) (hs : SqT K H0 p vs) : SqT K H p vs := by
  have no : ∀ o : HO, H0 p = some o → (∀ acc, o ≠ .lst acc) → ¬ Box H0 p → H p = some o := fun o ho hl hb => h.e _ _ (fun y => by
    rcases List.mem_cons.mp y with y | y
    · obtain ⟨acc, w⟩ := h.l0.1; rw [← y, ho] at w; exact hl acc (Option.some.inj w)
    · rcases List.mem_cons.mp y with y | y
      · obtain ⟨acc, w⟩ := h.l0.2; rw [← y, ho] at w; exact hl acc (Option.some.inj w)
      · exact hb (h.b0 _ y)) ho
  rcases hs with (hs | ⟨o, hs⟩) | hs
  · exact .inl (.inl (no _ hs (fun _ y => HO.noConfusion y) (box_tup hs)))
  · exact .inl (.inr ⟨o, no _ hs (fun _ y => HO.noConfusion y) (box_frz hs)⟩)
  · exact .inr hs
theorem HP2.sqL (h : HP2 K C CK H0 H z F0 pq pt ms mo as rs lq lt) (hs : SqL K H0 p vs) (h1 : p ≠ pq) (h2 : p ≠ pt) : SqL K H p vs := by
  have no : ∀ o : HO, H0 p = some o → ¬ Box H0 p → H p = some o := fun o ho hb => h.e _ _ (fun y => by
    rcases List.mem_cons.mp y with y | y
    · exact h1 y
    · rcases List.mem_cons.mp y with y | y
      · exact h2 y
      · exact hb (h.b0 _ y)) ho
  rcases hs with (hs | ⟨o, hs⟩) | hs
  · exact .inl (.inl (no _ hs (box_lst hs)))
  · exact .inl (.inr ⟨o, no _ hs (box_frz hs)⟩)
  · exact .inr hs
theorem HP2.lm {l : Lm} (h : HP2 K C CK H0 H z F0 pq pt ms mo as rs lq lt) (hs : LmAt K H0 p l) : LmAt K H p l := hs.tr fun _ _ y => h.sqT y
theorem HP2.lms {ls : List (Addr × Lm)} (h : HP2 K C CK H0 H z F0 pq pt ms mo as rs lq lt) (hs : LmsAt K H0 ls) : LmsAt K H ls := fun x hx => h.lm (hs x hx)
theorem HP2.mono (h : HP2 K C CK H0 H z F0 pq pt ms mo as rs lq lt) (e : Ex H H') : HP2 K C CK H0 H' z F0 pq pt ms mo as rs lq lt :=
  ⟨h.e.trans (ExF.of e), h.b0, h.l0, h.hF, h.hK.mono e, e _ _ h.hq, e _ _ h.ht, h.ne, h.q1, h.q2, h.n1.mono h.hK.hms e, h.n2.mono h.hK.hms e⟩
/-- the keeper does something -/
theorem HP2.step (h : HP2 K C CK H0 H z F0 pq pt ms mo as rs lq lt) (e : ExF (FK z ms) H H') (hK : KprAt K C CK H' z ms' mo' as' rs') (hm : ms'.map (·.m) = ms.map (·.m)) (hF : Fs ms' = Fs ms) (hN : ∀ D, H D ≠ none → NSs H ms D → NSs H' ms D) : HP2 K C CK H0 H' z F0 pq pt ms' mo' as' rs' lq lt :=
  ⟨h.e.trans (e.sub fun b hb => by unfold FK at hb; rw [h.hF] at hb; exact List.mem_cons_of_mem _ (List.mem_cons_of_mem _ hb)), h.b0, h.l0, hF.trans h.hF, hK, e.lst h.hK.box h.hq, e.lst h.hK.box h.ht, h.ne, h.q1, h.q2, (hN pq (by rw [h.hq]; exact Option.some_ne_none _) h.n1).congr hm, (hN pt (by rw [h.ht]; exact Option.some_ne_none _) h.n2).congr hm⟩
theorem HP2.putQ {lq' : List V} (h : HP2 K C CK H0 H z F0 pq pt ms mo as rs lq lt) : HP2 K C CK H0 (upd H pq (.lst lq')) z F0 pq pt ms mo as rs lq' lt :=
  ⟨fun b o hb ho => by rw [upd_ne (fun y => hb (by rw [y]; exact List.mem_cons_self))]; exact h.e b o hb ho, h.b0, h.l0, h.hF, h.hK.updL h.hq h.q1 h.n1, upd_same, by rw [upd_ne h.ne.symm]; exact h.ht, h.ne, h.q1, h.q2, h.n1.upd h.hK.hms h.hq, h.n2.upd h.hK.hms h.hq⟩
theorem HP2.putT {lt' : List V} (h : HP2 K C CK H0 H z F0 pq pt ms mo as rs lq lt) : HP2 K C CK H0 (upd H pt (.lst lt')) z F0 pq pt ms mo as rs lq lt' :=
  ⟨fun b o hb ho => by rw [upd_ne (fun y => hb (by rw [y]; exact List.mem_cons_of_mem _ List.mem_cons_self))]; exact h.e b o hb ho, h.b0, h.l0, h.hF, h.hK.updL h.ht h.q2 h.n2, by rw [upd_ne h.ne]; exact h.hq, upd_same, h.ne, h.q1, h.q2, h.n1.upd h.hK.hms h.ht, h.n2.upd h.hK.hms h.ht⟩
end
/-- answers' parts as told -/
def TldAt (K : PySem.W.Frag) (H : Hp) (ts : List (Addr × ARec)) : Prop := ∀ x ∈ ts, ∃ pz : Addr, SqT K H x.1 [.str x.2.k, .int x.2.t, .ref pz, oN x.2.e] ∧ SqT K H pz (x.2.lk.map V.str)
theorem TldAt.tr {K : PySem.W.Frag} {H H' : Hp} {ts : List (Addr × ARec)} (h : TldAt K H ts) (t : ∀ p vs, SqT K H p vs → SqT K H' p vs) : TldAt K H' ts := fun x hx => by
  obtain ⟨pz, h1, h2⟩ := h x hx
  exact ⟨pz, t _ _ h1, t _ _ h2⟩
/-- what stands between two requests -/
structure LI (ls : List (Addr × Lm)) (ks : List Str) (i : Nat) (ms : List MRec) (as ts : List (Addr × ARec)) (qs : List (Addr × Q4)) (mo : Int) (mo' : Option Int) : Prop where
  hmo : ∀ m, mo' = some m → m ≤ mo
  hS : KpS ls ms (qs.map (·.2)) [] mo
  hql : qs.length ≤ i
  hqk : ∀ x ∈ qs, x.2.1 ∈ ks.take i ∧ x.2.2.2.1 ≤ 1000
  hta : ts.map (·.2) = as.map (·.2)
  hk : (as.map fun x => x.2.k) = ks.take i
  hlk : ∀ x ∈ as, x.2.lk.length ≤ 8 ∧ ∀ z ∈ x.2.lk, PyData.strOk z = true
  m0 : 0 ≤ mo
  m1 : mo ≤ 1000000000
theorem LI.start {ls : List (Addr × Lm)} {ks : List Str} {ms : List MRec} {mo : Int} (h : KpS ls ms [] [] 0) (hok : ∀ x ∈ ls, x.2.Ok) (h0 : 0 ≤ mo) (h1 : mo ≤ 1000000000) : LI ls ks 0 ms [] [] [] mo none :=
  ⟨(fun _ y => nomatch y), h.later hok h0, Nat.le_refl _, (fun _ y => nomatch y), rfl, by rw [List.take_zero]; rfl, (fun _ y => nomatch y), h0, h1⟩
section
variable {ls : List (Addr × Lm)} {ks : List Str} {i : Nat} {ms : List MRec} {as ts : List (Addr × ARec)} {qs : List (Addr × Q4)} {mo t c : Int} {mo' E : Option Int} {k g : Str}
theorem take_new (hn : ks.Nodup) (hk : ks[i]? = some k) : k ∉ ks.take i := fun h => by
  obtain ⟨j, hj⟩ := List.getElem?_of_mem h
  have hj2 : j < (ks.take i).length := (List.getElem?_eq_some_iff.mp hj).1
  rw [List.length_take] at hj2
  rw [List.getElem?_take_of_lt (by omega)] at hj
  obtain ⟨h1, h2⟩ := List.getElem?_eq_some_iff.mp hj
  obtain ⟨h3, h4⟩ := List.getElem?_eq_some_iff.mp hk
  exact List.pairwise_iff_getElem.mp hn j i h1 h3 (by omega) (h2.trans h4.symm)
theorem LI.fresh (h : LI ls ks i ms as ts qs mo mo') (hn : ks.Nodup) (hk : ks[i]? = some k) : k ∉ (as.map fun x => x.2.k) := by rw [h.hk]; exact take_new hn hk
theorem LI.ready (h : LI ls ks i ms as ts qs mo mo') (hok : ∀ x ∈ ls, x.2.Ok) (hn : ks.Nodup) (hk : ks[i]? = some k) (hi : i ≤ 900) : ReadyM ms k := h.hS.ready hok (fun y => by
  rw [List.map_map] at y
  obtain ⟨x, hx, e⟩ := List.mem_map.mp y
  exact take_new hn hk (by rw [← e]; exact (h.hqk x hx).1)) (by rw [List.length_map]; have := h.hql; omega)
theorem LI.len (h : LI ls ks i ms as ts qs mo mo') (hi : i ≤ ks.length) : as.length = i := by
  have := congrArg List.length h.hk
  rw [List.length_map, List.length_take] at this
  omega
theorem LI.sum (h : LI ls ks i ms as ts qs mo mo') (hi : i ≤ 900) : sum4 (qs.map (·.2)) ≤ 1000000 := by
  have h1 := sum4_le (xs := qs.map (·.2)) fun q hq => by
    obtain ⟨x, hx, e⟩ := List.mem_map.mp hq
    rw [← e]
    exact (h.hqk x hx).2
  rw [List.length_map] at h1
  have := h.hql
  omega
theorem LI.step (h : LI ls ks i ms as ts qs mo mo') (hok : ∀ x ∈ ls, x.2.Ok) (h8 : ls.length ≤ 8) (hk : ks[i]? = some k) (ht : mo ≤ t) (ht1 : t ≤ 1000000000) (hc0 : 0 ≤ c) (hc1 : c ≤ 1000) (dd p r : Addr) :
    LI ls ks (i + 1) (if lackOf ls (qs.map (·.2)) [] g c t = [] then letK ms k g c t else ms) (as ++ [(dd, ⟨k, g, c, t, lackOf ls (qs.map (·.2)) [] g c t, E⟩)]) (ts ++ [(p, ⟨k, g, c, t, lackOf ls (qs.map (·.2)) [] g c t, E⟩)]) (if lackOf ls (qs.map (·.2)) [] g c t = [] then qs ++ [(r, (k, g, c, t))] else qs) t (some t) := by
  have hT : ks.take (i + 1) = ks.take i ++ [k] := by rw [List.take_add_one, hk]; rfl
  refine ⟨fun m hm => by rw [Option.some.inj hm]; exact Int.le_refl _, ?_, ?_, fun x hx => ?_, ?_, ?_, fun x hx => ?_, Int.le_trans h.m0 ht, ht1⟩
  · split
    · rw [List.map_append]
      exact h.hS.let_ hok ht hc0 (fun y => nomatch y)
    · exact h.hS.later hok ht
  · have := h.hql
    split
    · rw [List.length_append]; show qs.length + 1 ≤ _; omega
    · omega
  · have hold : ∀ x ∈ qs, x.2.1 ∈ ks.take (i + 1) ∧ x.2.2.2.1 ≤ 1000 := fun x hx => ⟨by rw [hT]; exact List.mem_append.mpr (.inl (h.hqk x hx).1), (h.hqk x hx).2⟩
    split at hx
    · rcases List.mem_append.mp hx with hx | hx
      · exact hold x hx
      · rw [List.mem_singleton.mp hx]
        exact ⟨by rw [hT]; exact List.mem_append.mpr (.inr List.mem_cons_self), hc1⟩
    · exact hold x hx
  · rw [List.map_append, List.map_append, h.hta]
    rfl
  · rw [List.map_append, h.hk, hT]
    rfl
  · rcases List.mem_append.mp hx with hx | hx
    · exact h.hlk x hx
    · rw [List.mem_singleton.mp hx]
      exact ⟨Nat.le_trans lack_len h8, fun z hz => by
        obtain ⟨y, hy, _, h3⟩ := lack_mem.mp hz
        rw [← h3]
        exact isName_ok (hok y hy).1⟩
end
/-! ### a keeper and releases -/
def gbK (ms : List MRec) (k : Str) : List MRec := ms.map fun r => { r with st := relM k r.st }
theorem relM_size {k : Str} {st : MSt4} : sizeM (relM k st) ≤ sizeM st := by
  cases st with
  | held es => exact List.length_filter_le _ _
  | pool es => exact List.length_filter_le _ _
  | _ => exact Nat.le_refl _
section
variable {ls : List (Addr × Lm)} {ms : List MRec} {xs : List Q4} {gone : List Str} {mo t c : Int} {k g : Str} {E : Option Int}
theorem KpS.rel (h : KpS ls ms xs gone mo) : KpS ls (gbK ms k) xs (gone ++ [k]) mo := by
  have hm : ∀ r ∈ gbK ms k, ∃ r0 ∈ ms, r = { r0 with st := relM k r0.st } := fun r hr => by
    obtain ⟨r0, h1, h2⟩ := List.mem_map.mp hr
    exact ⟨r0, h1, h2.symm⟩
  refine ⟨?_, fun r hr => ?_, fun r hr => ?_, h.past, h.srt⟩
  · rw [← h.hl]
    unfold gbK
    rw [List.map_map]
    rfl
  · obtain ⟨r0, h1, rfl⟩ := hm r hr
    exact rel_m (h.hk r0 h1)
  · obtain ⟨r0, h1, rfl⟩ := hm r hr
    exact Nat.le_trans relM_size (h.hz r0 h1)
end
/-! ### a keeper and lists that grow beside it -/
structure HPN (K : PySem.W.Frag) (C : Nat → Addr) (CK : Addr) (H0 H : Hp) (z : KAd) (F0 : List Addr) (X : List (Addr × List V)) (ms : List MRec) (mo : Option Int) (as : List (Addr × ARec)) (rs : List Str) : Prop where
  e : ExF (X.map (·.1) ++ (z.kp :: z.pA :: z.pR :: F0)) H0 H
  b0 : ∀ b ∈ z.kp :: z.pA :: z.pR :: F0, Box H0 b
  l0 : ∀ p ∈ X.map (·.1), ∃ acc, H0 p = some (.lst acc)
  hF : Fs ms = F0
  hK : KprAt K C CK H z ms mo as rs
  hx : ∀ x ∈ X, H x.1 = some (.lst x.2)
  ne : (X.map (·.1)).Nodup
  q : ∀ p ∈ X.map (·.1), p ≠ z.pM
  n : ∀ p ∈ X.map (·.1), NSs H ms p
section
variable {K : PySem.W.Frag} {C : Nat → Addr} {CK : Addr} {H0 H H' : Hp} {z : KAd} {F0 : List Addr} {X A B : List (Addr × List V)} {p : Addr} {ms ms' : List MRec} {mo mo' : Option Int} {as as' : List (Addr × ARec)} {rs rs' : List Str} {vs lv lw : List V} {x y : Addr × List V}
theorem HPN.sqT (h : HPN K C CK H0 H z F0 X ms mo as rs) (hs : SqT K H0 p vs) : SqT K H p vs := by
  have no : ∀ o : HO, H0 p = some o → (∀ acc, o ≠ .lst acc) → ¬ Box H0 p → H p = some o := fun o ho hl hb => h.e _ _ (fun y => by
    rcases List.mem_append.mp y with y | y
    · obtain ⟨acc, w⟩ := h.l0 _ y; rw [ho] at w; exact hl acc (Option.some.inj w)
    · exact hb (h.b0 _ y)) ho
  rcases hs with (hs | ⟨o, hs⟩) | hs
  · exact .inl (.inl (no _ hs (fun _ y => HO.noConfusion y) (box_tup hs)))
  · exact .inl (.inr ⟨o, no _ hs (fun _ y => HO.noConfusion y) (box_frz hs)⟩)
  · exact .inr hs
theorem HPN.sqL (h : HPN K C CK H0 H z F0 X ms mo as rs) (hs : SqL K H0 p vs) (hp : p ∉ X.map (·.1)) : SqL K H p vs := by
  have no : ∀ o : HO, H0 p = some o → ¬ Box H0 p → H p = some o := fun o ho hb => h.e _ _ (fun y => by
    rcases List.mem_append.mp y with y | y
    · exact hp y
    · exact hb (h.b0 _ y)) ho
  rcases hs with (hs | ⟨o, hs⟩) | hs
  · exact .inl (.inl (no _ hs (box_lst hs)))
  · exact .inl (.inr ⟨o, no _ hs (box_frz hs)⟩)
  · exact .inr hs
theorem HPN.lms {ls : List (Addr × Lm)} (h : HPN K C CK H0 H z F0 X ms mo as rs) (hs : LmsAt K H0 ls) : LmsAt K H ls := fun x hx => (hs x hx).tr fun _ _ y => h.sqT y
theorem HPN.mono (h : HPN K C CK H0 H z F0 X ms mo as rs) (e : Ex H H') : HPN K C CK H0 H' z F0 X ms mo as rs :=
  ⟨h.e.trans (ExF.of e), h.b0, h.l0, h.hF, h.hK.mono e, fun x hx => e _ _ (h.hx x hx), h.ne, h.q, fun p hp => (h.n p hp).mono h.hK.hms e⟩
theorem HPN.step (h : HPN K C CK H0 H z F0 X ms mo as rs) (e : ExF (FK z ms) H H') (hK : KprAt K C CK H' z ms' mo' as' rs') (hm : ms'.map (·.m) = ms.map (·.m)) (hF : Fs ms' = Fs ms) (hN : ∀ D, H D ≠ none → NSs H ms D → NSs H' ms D) : HPN K C CK H0 H' z F0 X ms' mo' as' rs' :=
  ⟨h.e.trans (e.sub fun b hb => by unfold FK at hb; rw [h.hF] at hb; exact List.mem_append.mpr (.inr hb)), h.b0, h.l0, hF.trans h.hF, hK, fun x hx => e.lst h.hK.box (h.hx x hx), h.ne, h.q, fun p hp => by
    obtain ⟨x, hx, rfl⟩ := List.mem_map.mp hp
    exact (hN _ (by rw [h.hx x hx]; exact Option.some_ne_none _) (h.n _ hp)).congr hm⟩
end
/-! ### rows of requests and releases, given to a keeper -/
def asksOf (es : List Ent) : List Str := (es.filter fun e => e.isAsk).map Ent.key
structure RowE (ks : List Str) (j : Nat) (es : List Ent) : Prop where
  asks : asksOf es = ks.take j
  jl : j ≤ ks.length
  rels : ∀ i k m, es[i]? = some (.rel k m) → k ∈ asksOf (es.take i)
theorem RowE.nil {ks : List Str} : RowE ks 0 [] := ⟨by rw [List.take_zero]; rfl, Nat.zero_le _, fun i k m h => by rw [List.getElem?_nil] at h; cases h⟩
theorem asks_app {es fs : List Ent} : asksOf (es ++ fs) = asksOf es ++ asksOf fs := by
  unfold asksOf
  rw [List.filter_append, List.map_append]
theorem snoc_at {α : Type} {es : List α} {e y : α} {i : Nat} (h : (es ++ [e])[i]? = some y) : es[i]? = some y ∨ (i = es.length ∧ y = e) := by
  by_cases hi : i < es.length
  · rw [List.getElem?_append_left hi] at h
    exact .inl h
  · rw [List.getElem?_append_right (by omega)] at h
    have h2 := (List.getElem?_eq_some_iff.mp h).1
    have h3 : i - es.length < 1 := h2
    have h4 : i = es.length := by omega
    subst h4
    rw [Nat.sub_self] at h
    exact .inr ⟨rfl, (Option.some.inj h).symm⟩
theorem RowE.rel {ks : List Str} {j : Nat} {es : List Ent} {k : Str} {m : Int} (h : RowE ks j es) (hk : k ∈ ks.take j) : RowE ks j (es ++ [.rel k m]) := by
  refine ⟨?_, h.jl, fun i k' m' hi => ?_⟩
  · rw [asks_app, h.asks]
    show _ ++ [] = _
    rw [List.append_nil]
  · rcases snoc_at hi with hi | ⟨rfl, he⟩
    · have hl := (List.getElem?_eq_some_iff.mp hi).1
      rw [List.take_append_of_le_length (by omega)]
      exact h.rels i k' m' hi
    · have he2 : k' = k := by injection he
      rw [List.take_left', he2, h.asks]
      · exact hk
      · rfl
theorem RowE.ask {ks : List Str} {j : Nat} {es : List Ent} {k g : Str} {c m : Int} (h : RowE ks j es) (hk : ks[j]? = some k) : RowE ks (j + 1) (es ++ [.ask k g c m]) := by
  refine ⟨?_, (List.getElem?_eq_some_iff.mp hk).1, fun i k' m' hi => ?_⟩
  · rw [asks_app, h.asks, List.take_add_one, hk]
    rfl
  · rcases snoc_at hi with hi | ⟨rfl, he⟩
    · have hl := (List.getElem?_eq_some_iff.mp hi).1
      rw [List.take_append_of_le_length (by omega)]
      exact h.rels i k' m' hi
    · cases he
theorem asks_next {es : List Ent} {i : Nat} {e : Ent} (h : es[i]? = some e) : asksOf (es.take (i + 1)) = asksOf (es.take i) ++ asksOf [e] := by
  rw [List.take_add_one, h, asks_app]
  rfl
theorem RowE.pre {ks : List Str} {j : Nat} {es : List Ent} (h : RowE ks j es) (i : Nat) : asksOf (es.take i) = ks.take (asksOf (es.take i)).length ∧ (asksOf (es.take i)).length ≤ j := by
  have e : asksOf (es.take i) ++ asksOf (es.drop i) = ks.take j := by rw [← asks_app, List.take_append_drop, h.asks]
  have hl := congrArg List.length e
  rw [List.length_append, List.length_take] at hl
  have hj := h.jl
  refine ⟨?_, by omega⟩
  have e2 := congrArg (List.take (asksOf (es.take i)).length) e
  rw [List.take_left', List.take_take, Nat.min_eq_left (by omega)] at e2
  · exact e2
  · rfl
theorem RowE.askAt {ks : List Str} {j i : Nat} {es : List Ent} {k g : Str} {c m : Int} (h : RowE ks j es) (hi : es[i]? = some (.ask k g c m)) : ks[(asksOf (es.take i)).length]? = some k := by
  have h1 := (h.pre (i + 1)).1
  have e1 := asks_next hi
  have e2 : asksOf [Ent.ask k g c m] = [k] := rfl
  rw [e2] at e1
  rw [e1, List.length_append] at h1
  have h2 := congrArg (fun l : List Str => l[(asksOf (es.take i)).length]?) h1
  have h2 : (asksOf (es.take i) ++ [k])[(asksOf (es.take i)).length]? = (ks.take ((asksOf (es.take i)).length + 1))[(asksOf (es.take i)).length]? := h2
  rw [List.getElem?_append_right (Nat.le_refl _), Nat.sub_self, List.getElem?_take_of_lt (Nat.lt_succ_self _)] at h2
  exact h2.symm
theorem RowE.new {ks : List Str} {j i : Nat} {es : List Ent} {k g : Str} {c m : Int} (h : RowE ks j es) (hn : ks.Nodup) (hi : es[i]? = some (.ask k g c m)) : k ∉ asksOf (es.take i) := by
  rw [(h.pre i).1]
  exact take_new hn (h.askAt hi)
theorem RowE.nd {ks : List Str} {j : Nat} {es : List Ent} (h : RowE ks j es) (hn : ks.Nodup) (i : Nat) : (asksOf (es.take i)).Nodup := by
  rw [(h.pre i).1]
  exact (List.take_sublist _ _).nodup hn
/-- what stands between two entries -/
structure LR (ls : List (Addr × Lm)) (ak : List Str) (n : Nat) (ms : List MRec) (as : List (Addr × ARec)) (qs : List (Addr × Q4)) (gone : List Str) (mo : Int) (mo' : Option Int) : Prop where
  hmo : ∀ m, mo' = some m → m ≤ mo
  hS : KpS ls ms (qs.map (·.2)) gone mo
  hql : qs.length ≤ n
  hqk : ∀ x ∈ qs, x.2.1 ∈ ak ∧ x.2.2.2.1 ≤ 1000
  hqn : (qs.map fun x => x.2.1).Nodup
  hk : (as.map fun x => x.2.k) = ak
  hlk : ∀ x ∈ as, x.2.lk.length ≤ 8 ∧ (∀ z ∈ x.2.lk, PyData.strOk z = true) ∧ (x.2.lk = [] ↔ x.2.k ∈ qs.map fun x => x.2.1)
  hg : ∀ k ∈ gone, k ∈ qs.map fun x => x.2.1
  hgl : gone.length ≤ n
  m0 : 0 ≤ mo
  m1 : mo ≤ 1000000000
section
variable {ls : List (Addr × Lm)} {ak : List Str} {n : Nat} {ms : List MRec} {as : List (Addr × ARec)} {qs : List (Addr × Q4)} {gone : List Str} {mo t c : Int} {mo' E : Option Int} {k g : Str}
theorem LR.qk (h : LR ls ak n ms as qs gone mo mo') {z : Str} (hz : z ∈ qs.map fun x => x.2.1) : z ∈ ak := by
  obtain ⟨x, hx, e⟩ := List.mem_map.mp hz
  rw [← e]
  exact (h.hqk x hx).1
theorem LR.ready (h : LR ls ak n ms as qs gone mo mo') (hok : ∀ x ∈ ls, x.2.Ok) (hk : k ∉ ak) (hn : n ≤ 900) : ReadyM ms k := h.hS.ready hok (fun y => by
  rw [List.map_map] at y
  exact hk (h.qk y)) (by rw [List.length_map]; have := h.hql; omega)
theorem LR.sum (h : LR ls ak n ms as qs gone mo mo') (hn : n ≤ 900) : sum4 (qs.map (·.2)) ≤ 1000000 := by
  have h1 := sum4_le (xs := qs.map (·.2)) fun q hq => by
    obtain ⟨x, hx, e⟩ := List.mem_map.mp hq
    rw [← e]
    exact (h.hqk x hx).2
  rw [List.length_map] at h1
  have := h.hql
  omega
end
/-! ### errors as values -/
/-- at a: an error of the class at C that was never raised, with the attributes fs (none, or one) -/
def ErrV (K : PySem.W.Frag) (H : Hp) (a C : Addr) (fs : List (Str × V)) : Prop := ExcC K C ∧
  ((fs = [] ∧ H a = some (ExO (.ref C) a)) ∨ ∃ (d : Addr) (f : Str) (v : V), fs = [(f, v)] ∧ H a = some (exo a C (some d)) ∧ H d = some (.xd fs) ∧ PySem.W.findIn K (.ref C) f = some none)
theorem ErrV.ex {K : PySem.W.Frag} {H H' : Hp} {a C : Addr} {fs : List (Str × V)} (h : ErrV K H a C fs) (e : Ex H H') : ErrV K H' a C fs := by
  obtain ⟨c, h⟩ := h
  rcases h with ⟨h1, h2⟩ | ⟨d, f, v, h1, h2, h3, h4⟩
  · exact ⟨c, .inl ⟨h1, e _ _ h2⟩⟩
  · exact ⟨c, .inr ⟨d, f, v, h1, e _ _ h2, e _ _ h3, h4⟩⟩
/-! ### classes that stand apart -/
/-! ### further steps -/
/-! ### a head by facts -/
namespace Hd
open PySem.W PySem.Calls
theorem prF_ok {K : Frag} {C : Addr} {m : Str} (h : (match recIn K (He.ma K C m) "property" with | some (.ref _ :: _) => true | _ => false) = true) : ∃ rest, recIn K (He.ma K C m) "property" = some (.ref (prF K C m) :: rest) := by
  unfold prF
  split at h
  · rename_i f r e
    exact ⟨r, by rw [e]⟩
  · cases h
theorem fun_fact {K : Frag} {f : Frag → Addr} {x q : Str} {st : Stmt} (e : fnO K (f K) = (mkO f x q st).val) (hc : codeB K (f K) q = true) (hk : keepIn K (.ref (f K)) = true) : ∃ fd, Fun K x q st (f K) fd := by
  unfold fnO at e
  unfold codeB at hc
  cases l : K.lookup (f K) with
  | none =>
    rw [l] at hc
    cases hc
  | some o =>
    obtain ⟨oc, od, dt, osl⟩ := o
    rw [l] at hc e
    cases dt with
    | func fd =>
      obtain ⟨n1, n2, n3, n4, n5, n6, n7, n8, n9, n10, n11, n12, n13, n14, n15⟩ := fd
      have e2 : (some (n1, n2, n3, n4, n5, n6, n7.map (·.1), n8, n15) : FnO) = some (x, q, defArgs st, FuncBody.stmts (defBody st), defScope st, mainGlobals, [], Value.none, builtinsNs) := e
      simp only [Option.some.injEq, Prod.mk.injEq] at e2
      obtain ⟨h1, h2, h3, h4, h5, h6, h7, h8, h9⟩ := e2
      have h7 := List.map_eq_nil_iff.mp h7
      subst h1 h2 h3 h4 h5 h6 h7 h8 h9
      exact ⟨_, ⟨oc, od, n9, n10, n11, n12, n13, n14, osl, rfl, l, hc⟩, hk⟩
    | _ => cases hc
theorem fun_to {K : Frag} {x q : Str} {st : Stmt} {f : Addr} {fd : FuncData} {y : Str} (F : Fun K x q st f fd) (h : ∀ (kV doc pm : Value) (an : Option Addr) (cdv ct : Value) (s : Shared) (v : Value), BindsTo s (fnOf x q (defArgs st) (defBody st) (defScope st) .none kV doc pm an cdv ct) ⟨[v], []⟩ [(y, v)]) : ∀ (s : Shared) (v : Value), BindsTo s fd ⟨[v], []⟩ [(y, v)] := by
  obtain ⟨oc, od, kV, doc, pm, an, cdv, ct, osl, e, _, _⟩ := F.ex
  subst e
  exact fun s v => h _ _ _ _ _ _ s v
/-! errors -/
theorem strB_ok {vs : Array Value} {file : Str} (h : strB vs file = true) : ∃ tf, vs[2]? = some (.str file tf) := by
  unfold strB at h
  cases v : (vs[2]? : Option Value) with
  | none => rw [v] at h; cases h
  | some u =>
    rw [v] at h
    cases u with
    | str z t =>
      have e : z = file := of_decide_eq_true h
      subst e
      exact ⟨t, rfl⟩
    | _ => cases h
theorem err_fn {K : Frag} {C : Str} {q f msg file : Str} {p1 p2 q1 q2 q3 q4 q5 q6 q7 q8 q9 q10 : Pos} (e : fnO K (He.ma K (He.ga K C) "__init__") = (mkE C q f msg p1 p2 q1 q2 q3 q4 q5 q6 q7 q8 q9 q10).val) (hb : errB K (He.ma K (He.ga K C) "__init__") q file (He.ga K C) = true) (hq : (q3.endLine == q5.line) = true) :
    ∃ (oc : Value) (od : Option Addr) (qual msg : Str) (j : Nat) (doc pm : Value) (an : Option Addr) (cda cc : Addr) (ct : Value) (osl : Array (Option Value)) (p1 p2 q1 q2 q3 q4 q5 q6 q7 q8 q9 q10 : Pos),
    K.lookup (He.ma K (He.ga K C) "__init__") = some ⟨oc, od, .func (ksFn "__init__" qual (PySem.LwX.xA f p1 p2) (PySem.LwX.xB msg f j q1 q2 q3 q4 q5 q6 q7 q8 q9 q10) (PySem.LwX.xS f) .none .none doc pm an (.ref cda) ct cc), osl⟩ ∧ codeIn K (.ref cda) qual = true ∧
    (∃ (ccl : Value) (cdd : Option Addr) (vs : Array Value) (ccs : Array (Option Value)) (tf : Tok), K.lookup cda = some ⟨ccl, cdd, .fields vs, ccs⟩ ∧ vs[2]? = some (.str file tf)) ∧
    (∃ (cl : Value) (cld : Option Addr) (csl : Array (Option Value)), K.lookup cc = some ⟨cl, cld, .cell (some (.ref (He.ga K C))), csl⟩) ∧ (q3.endLine == q5.line) = true := by
  generalize He.ma K (He.ga K C) "__init__" = a at *
  unfold fnO at e
  unfold errB at hb
  cases l : K.lookup a with
  | none =>
    rw [l] at hb
    cases hb
  | some o =>
    obtain ⟨oc, od, dt, osl⟩ := o
    rw [l] at hb e
    cases dt with
    | func fd =>
      obtain ⟨n1, n2, n3, n4, n5, n6, n7, n8, n9, n10, n11, n12, n13, n14, n15⟩ := fd
      have e2 : (some (n1, n2, n3, n4, n5, n6, n7.map (·.1), n8, n15) : FnO) = some (("__init__" : Str), q, PySem.LwX.xA f p1 p2, FuncBody.stmts (PySem.LwX.xB msg f 0 q1 q2 q3 q4 q5 q6 q7 q8 q9 q10), PySem.LwX.xS f, mainGlobals, ([("__class__" : Str)] : List Str), Value.none, builtinsNs) := e
      simp only [Option.some.injEq, Prod.mk.injEq] at e2
      obtain ⟨h1, h2, h3, h4, h5, h6, h7, h8, h9⟩ := e2
      subst h1 h2 h3 h4 h5 h6 h8 h9
      dsimp only at hb
      obtain ⟨k1, hb⟩ := He.ba hb
      obtain ⟨k2, hb⟩ := He.ba hb
      obtain ⟨k3, k4⟩ := He.ba hb
      cases n9 with
      | none =>
        obtain ⟨cda, rfl⟩ : ∃ c, n13 = .ref c := by
          cases n13 with
          | ref c => exact ⟨c, rfl⟩
          | _ => cases k3
        match n7, h7, k4 with
        | [(x, cc)], h7, k4 =>
          have hx : x = "__class__" := (List.cons.inj h7).1
          subst hx
          refine ⟨oc, od, _, msg, 0, n10, n11, n12, cda, cc, n14, osl, p1, p2, q1, q2, q3, q4, q5, q6, q7, q8, q9, q10, rfl, k2, ?_, ?_, hq⟩
          · dsimp only at k3
            cases l2 : K.lookup cda with
            | none => rw [l2] at k3; cases k3
            | some o2 =>
              obtain ⟨c1, c2, c3, c4⟩ := o2
              rw [l2] at k3
              cases c3 with
              | fields vs =>
                obtain ⟨tf, e⟩ := strB_ok k3
                exact ⟨c1, c2, vs, c4, tf, rfl, e⟩
              | _ => cases k3
          · dsimp only at k4
            cases l2 : K.lookup cc with
            | none => rw [l2] at k4; cases k4
            | some o2 =>
              obtain ⟨c1, c2, c3, c4⟩ := o2
              rw [l2] at k4
              cases c3 with
              | cell u =>
                cases u with
                | none => cases k4
                | some u =>
                  cases u with
                  | ref D =>
                    have eD : D = He.ga K C := of_decide_eq_true k4
                    subst eD
                    exact ⟨c1, c2, c4, rfl⟩
                  | _ => cases k4
              | _ => cases k4
      | _ => cases k1
    | _ => cases hb
theorem err_cls {K : Frag} {C : Addr} {nm : Str} (h : clsB K C nm = true) : ∃ q N bs bm sn sub ab col dd k0 k1 k2 k3 k5, K.lookup C = some (excClassObj nm q C N bs bm true sn sub ab col dd k0 k1 k2 k3 k5 "ValueError.__new__") ∧ PySem.HandSPX.refsVE bm = true := by
  unfold clsB at h
  cases l : K.lookup C with
  | none => rw [l] at h; cases h
  | some o =>
    obtain ⟨oc, od, dt, sl⟩ := o
    rw [l] at h
    cases oc with
    | type t =>
      cases dt with
      | cls cd =>
        obtain ⟨h1, h⟩ := He.ba h
        obtain ⟨h2, h⟩ := He.ba h
        obtain ⟨h3, h⟩ := He.ba h
        obtain ⟨h4, h⟩ := He.ba h
        obtain ⟨h5, h6⟩ := He.ba h
        obtain ⟨n1, n2, n3, n4, n5, n6, n7, n8, n9, n10, n11⟩ := cd
        dsimp only at *
        have e1 : t = "type" := of_decide_eq_true h1
        have e2 : n1 = nm := of_decide_eq_true h2
        subst e1 e2 h4
        cases n11 with
        | true => cases h5
        | false =>
          match n3, h3 with
          | .ref D :: bm, h3 =>
            obtain ⟨h7, h8⟩ := He.ba h3
            have e3 : D = C := of_decide_eq_true h7
            subst e3
            obtain ⟨sl⟩ := sl
            match sl, h6 with
            | [k0, k1, k2, k3, some (.builtin n), k5], h6 =>
              have e4 : n = "ValueError.__new__" := of_decide_eq_true h6
              subst e4
              exact ⟨n5, n4, n2, bm, n7, n8, n9, n10, od, k0, k1, k2, k3, k5, rfl, h8⟩
      | _ => cases h
    | _ => cases dt <;> cases h
/-! what is reached -/
section
variable {ex : Frag → List (List Bool)} {fn : List DefO} {ts : List (Frag → Addr)} {ks : List (List Str)} {w : World} {K : Frag}
theorem SaysH.bit (c : SaysH ex fn ts ks w K) (i j : Nat) {l : List Bool} {p : Prop} [Decidable p] (h : (ex K)[i]? = some l) (h2 : l[j]? = some (decide p)) : p := by
  have c1 : ((ex K).all fun b => b.all id) = true := congrArg (fun z : AlH => z.1) c
  have c2 := List.all_eq_true.mp c1 l (List.mem_of_getElem? h)
  exact of_decide_eq_true (List.all_eq_true.mp c2 _ (List.mem_of_getElem? h2))
theorem SaysH.bool (c : SaysH ex fn ts ks w K) (i j : Nat) {l : List Bool} {b : Bool} (h : (ex K)[i]? = some l) (h2 : l[j]? = some b) : b = true := by
  have c1 : ((ex K).all fun b => b.all id) = true := congrArg (fun z : AlH => z.1) c
  have c2 := List.all_eq_true.mp c1 l (List.mem_of_getElem? h)
  exact List.all_eq_true.mp c2 _ (List.mem_of_getElem? h2)
theorem SaysH.fnc (c : SaysH ex fn ts ks w K) (i : Nat) {d : DefO} (h : fn[i]? = some d) : fnO K (d.at_ K) = d.val := by
  have e : fn.map (fun d => fnO K (d.at_ K)) = fn.map DefO.val := congrArg (fun z : AlH => z.2.1) c
  have e2 : (fn.map fun d => fnO K (d.at_ K))[i]? = (fn.map DefO.val)[i]? := by rw [e]
  rw [List.getElem?_map, List.getElem?_map, h] at e2
  exact Option.some.inj e2
theorem SaysH.tab (c : SaysH ex fn ts ks w K) (i : Nat) {t : Frag → Addr} {k : List Str} (h : ts[i]? = some t) (h2 : ks[i]? = some k) : ∃ es n, KDict K w (t K) es n ∧ keysE es.toList = k := by
  have e : ts.map (fun t => He.dicW K (t K)) = ks.map fun k => some (He.keysIn w.params k) := congrArg (fun z : AlH => z.2.2) c
  have e2 : (ts.map fun t => He.dicW K (t K))[i]? = (ks.map fun k => some (He.keysIn w.params k))[i]? := by rw [e]
  rw [List.getElem?_map, List.getElem?_map, h, h2] at e2
  have e3 : He.dicW K (t K) = some (He.keysIn w.params k) := Option.some.inj e2
  obtain ⟨es, n, hk⟩ := He.dicW_ok e3
  refine ⟨es, n, hk, ?_⟩
  have e4 : He.dicW K (t K) = some (es.toList.map He.keyOf) := by
    unfold He.dicW
    rw [hk.at_]
    have hl := hk.low
    show (match decide (("dict" : String) = "dict") && ((#[] : Array (Option Value)).isEmpty && !(t K == sysModules)) with | true => some (es.toList.map He.keyOf) | false => none) = _
    rw [hl]
    rfl
  rw [e3] at e4
  have e5 : es.toList.map He.keyOf = He.keysIn w.params k := (Option.some.inj e4).symm
  have key : ∀ (l : List DictEntry) (k : List Str), l.map He.keyOf = He.keysIn w.params k → keysE l = k := by
    intro l
    induction l with
    | nil => intro k hk; cases k with
      | nil => rfl
      | cons a r => cases hk
    | cons x l ih => intro k hk; cases k with
      | nil => cases hk
      | cons a r =>
        have h1 : He.keyOf x :: l.map He.keyOf = some (a, PyData.keyHash w.params a) :: He.keysIn w.params r := hk
        injection h1 with h2 h3
        have h4 := ih r h3
        unfold He.keyOf at h2
        unfold keysE
        rw [List.filterMap_cons]
        split at h2
        · rename_i y t q
          have h5 := (Prod.mk.inj (Option.some.inj h2)).1
          rw [q]
          show y :: keysE l = a :: r
          rw [h4, h5]
        · cases h2
  exact key _ _ e5
end
theorem con_int {K : Frag} {h : Heap} {mg : Str → Option Value} (X : K.In h) (G : h.Ns mainGlobals mg) {x : Str} {i : Int} (c : (He.Fa.int x i).ok K = true) : ∃ u, mg x = some u ∧ RelV (.int i) u := by
  obtain ⟨t, e⟩ := He.int_ok X G c
  exact ⟨_, e, ⟨_, rfl⟩⟩
theorem con_str {K : Frag} {h : Heap} {mg : Str → Option Value} (X : K.In h) (G : h.Ns mainGlobals mg) {x z : Str} (c : (He.Fa.str x z).ok K = true) : ∃ u, mg x = some u ∧ RelV (.str z) u := by
  obtain ⟨t, e⟩ := He.str_ok X G c
  exact ⟨_, e, ⟨_, rfl⟩⟩
theorem errOf {file : Str} {K : Frag} {mg : Str → Option Value} {nm f : Str} {C fI : Addr} (fo : PySem.LwX.FieldOk f) (gC : mg nm = some (.ref C)) (cls : clsB K C nm = true) (sa : findIn K (.ref C) "__setattr__" = some (some (.builtin "object.__setattr__")))
    (ga : findIn K (.ref C) "__getattribute__" = some (some (.builtin "BaseException.__getattribute__"))) (gg : findIn K (.ref C) "__getattr__" = some none) (noN : findIn K (.ref C) f = some none) (iC : findIn K (.ref C) "__init__" = some (some (.ref fI)))
    (tI : typeIn K (.ref fI) = some (.type "function")) (kC : keepIn K (.ref C) = true) (eC : subIn K (.ref C) (.type "BaseException") = some true) (vC : subIn K (.ref C) (.type "ValueError") = some true) (mC : mroIn K C (.ref C) = some true) (tC : typeIn K (.ref C) = some (.type "type"))
    (hC : hasDictIn K C = true) (iiC : isClsIn K C = true) (sC : subIn K (.ref C) (.ref C) = some true) (su : ks_superIn K C C "__init__" = some (some (.builtin "ValueError.__init__"))) (opq : nsIn K cStatics "thirdparty.any" = some none) (gS : mg "super" = none)
    (fn : ∃ (oc : Value) (od : Option Addr) (qual msg : Str) (j : Nat) (doc pm : Value) (an : Option Addr) (cda cc : Addr) (ct : Value) (osl : Array (Option Value)) (p1 p2 q1 q2 q3 q4 q5 q6 q7 q8 q9 q10 : Pos),
    K.lookup fI = some ⟨oc, od, .func (ksFn "__init__" qual (PySem.LwX.xA f p1 p2) (PySem.LwX.xB msg f j q1 q2 q3 q4 q5 q6 q7 q8 q9 q10) (PySem.LwX.xS f) .none .none doc pm an (.ref cda) ct cc), osl⟩ ∧ codeIn K (.ref cda) qual = true ∧
    (∃ (ccl : Value) (cdd : Option Addr) (vs : Array Value) (ccs : Array (Option Value)) (tf : Tok), K.lookup cda = some ⟨ccl, cdd, .fields vs, ccs⟩ ∧ vs[2]? = some (.str file tf)) ∧
    (∃ (cl : Value) (cld : Option Addr) (csl : Array (Option Value)), K.lookup cc = some ⟨cl, cld, .cell (some (.ref C)), csl⟩) ∧ (q3.endLine == q5.line) = true) : PySem.LwX.ErrTxt file K mg nm f C fI :=
  { fo := fo, gC := gC, cls := err_cls cls, sa := sa, ga := ga, gg := gg, noN := noN, iC := iC, tC := tI, kC := kC, exC := eC, veC := vC, selfC := mC, tyC := tC, hdC := hC, te := exm_self eC iiC tC sC, su := su, opq := opq, gS := gS, fn := fn }
end Hd
open TL NumText
local macro_rules | `(tactic| walk_at "ki") => `(tactic| first
  | exact kit_str_str
  | exact kit_str_int
  | exact kit_str_bool
  | exact kit_str_tuple
  | exact kit_str_list
  | exact kit_str_dict
  | exact kit_int_str
  | exact kit_int_int
  | exact kit_int_bool
  | exact kit_int_tuple
  | exact kit_int_list
  | exact kit_int_dict
  | exact kit_bool_str
  | exact kit_bool_int
  | exact kit_bool_bool
  | exact kit_bool_tuple
  | exact kit_bool_list
  | exact kit_bool_dict
  | exact kit_NoneType_str
  | exact kit_NoneType_int
  | exact kit_NoneType_bool
  | exact kit_NoneType_tuple
  | exact kit_NoneType_list
  | exact kit_NoneType_dict
  | exact kit_tuple_str
  | exact kit_tuple_int
  | exact kit_tuple_bool
  | exact kit_tuple_tuple
  | exact kit_tuple_list
  | exact kit_tuple_dict
  | exact kit_list_str
  | exact kit_list_int
  | exact kit_list_bool
  | exact kit_list_tuple
  | exact kit_list_list
  | exact kit_list_dict)
local macro_rules | `(tactic| walk_at "ex") => `(tactic| first
  | assumption
  | exact Evl.Ex.refl _
  | exact Evl.Ex.new (by assumption)
  | (refine Evl.Ex.trans ?_ (Evl.Ex.new (by assumption)); walk_at "ex")
  | (refine Evl.Ex.trans ?_ (by assumption); walk_at "ex"))
local macro_rules | `(tactic| walk_at "sq") => `(tactic| first
  | assumption
  | exact .inl (.inl (by assumption))
  | exact .inl (.inl upd_same)
  | (apply ex_sqL (Evl.Ex.new (by assumption)); walk_at "sq")
  | (apply ex_sqT (Evl.Ex.new (by assumption)); walk_at "sq")
  | (apply ex_sqL (by assumption); walk_at "sq")
  | (apply ex_sqT (by assumption); walk_at "sq"))
local macro_rules | `(tactic| walk_at "dp") => `(tactic| first
  | exact Dp.int _
  | exact Dp.str _
  | exact Dp.bl _
  | exact Dp.non
  | (refine Dp.tup (by walk_at "sq") ?_; walk_at "dpa")
  | (refine Dp.lst (by walk_at "sq") ?_; walk_at "dpa"))
local macro_rules | `(tactic| walk_at "dpa") => `(tactic| first
  | exact DpAll.nil
  | (refine DpAll.cons (by walk_at "dp") ?_; walk_at "dpa"))
local macro_rules | `(tactic| walk_at "at") => `(tactic| first
  | assumption
  | exact upd_same
  | (apply ex_at (Evl.Ex.new (by assumption)); walk_at "at")
  | (apply ex_at (by assumption); walk_at "at"))
local macro_rules | `(tactic| walk_at "sd") => `(tactic| first
  | decide
  | omega
  | (unfold CDiv; omega)
  | (unfold CMul; omega)
  | (unfold CPow; omega)
  | (simp only [CDiv, CMul, CPow]; omega)
  | (refine fits_of ?_; simp only [List.length_append, List.length_cons, List.length_nil, List.length_map]; omega)
  | exact fits_of (by first | decide | omega | (simp only [List.length_cons, List.length_nil]; omega))
  | exact fits_lt (by first | decide | omega | (simp only [List.length_map]; omega))
  | exact fits_lt (by simp only [List.length_append, List.length_cons, List.length_nil, List.length_map] <;> omega)
  | exact fits_of (by simp only [List.length_append, List.length_cons, List.length_nil, List.length_map] <;> omega)
  | exact log_small (by omega)
  | exact fits_of (of_decide_eq_true rfl)
  | exact fits_of (by simp only [len_app, len_stxt, len_sing]; omega))
local macro_rules | `(tactic| walk_at "go") => `(tactic| repeat walk_at "g1")
local macro_rules | `(tactic| walk_at "g1") => `(tactic| first
  | with_reducible refine g_cons ?_
  | with_reducible refine g_nil ?_
  | ((with_reducible show tVar _ _ _ _); refine g_var rfl ?_)
  | with_reducible refine g_op ?_
  | with_reducible refine g_name ?_
  | with_reducible refine g_c ?_
  | with_reducible refine g_asg ?_
  | with_reducible refine g_seq ?_
  | with_reducible refine g_rI0 ?_
  | ((with_reducible refine g_rI ?h ?_); (case h => walk_at "sd"))
  | with_reducible refine g_next ?_
  | with_reducible refine g_test ?_
  | with_reducible refine g_bl ?_
  | with_reducible refine g_ifS ?_
  | ((with_reducible show rFld _ _ _ _ _); refine g_fld1 (by walk_at "at") (by assumption) (by assumption) (by rfl) ?_)
  | with_reducible refine g_fld ?_
  | with_reducible refine g_eqI ?_
  | with_reducible refine g_eqS ?_
  | with_reducible refine g_neI ?_
  | with_reducible refine g_neS ?_
  | with_reducible refine g_tB ?_
  | with_reducible refine g_cb ?_
  | with_reducible refine g_call ?_
  | with_reducible refine g_ret ?_
  | with_reducible refine g_drop ?_
  | ((with_reducible show rIxL _ _ _ _ _); refine g_ixL (by walk_at "sq") (by first | exact atI_nat (j := 0) rfl | exact atI_nat (j := 1) rfl | exact atI_nat (j := 2) rfl | exact atI_nat (j := 3) rfl | exact atI_nat (j := 4) rfl | exact at_ints (by omega) (by omega)) ?_)
  | ((with_reducible show rIxT _ _ _ _ _); refine g_ixT (by walk_at "sq") (by first | exact atI_nat (j := 3) rfl | exact atI_nat (j := 4) rfl) ?_)
  | ((with_reducible show rIxT _ _ _ _ _); refine g_ixT (by walk_at "sq") (by first | exact atI_nat (j := 0) rfl | exact atI_nat (j := 1) rfl | exact atI_nat (j := 2) rfl | exact atI_nat (j := 3) rfl | exact atI_nat (j := 4) rfl | exact rfl) ?_)
  | with_reducible refine g_tup ?_
  | ((with_reducible show rLen _ _ _ _); refine g_lenL (by walk_at "sq") ?_)
  | ((with_reducible show rLen _ _ _ _); refine g_lenT (by walk_at "sq") ?_)
  | with_reducible refine g_for ?_
  | with_reducible refine g_lc ?_
  | with_reducible refine g_iList ?_
  | ((with_reducible show rIL _ _ _ _); refine g_atL (by walk_at "sq") ?_)
  | with_reducible refine g_not ?_
  | with_reducible refine g_and ?_
  | with_reducible refine g_or ?_
  | with_reducible refine w_t ?_
  | with_reducible refine w_f ?_
  | with_reducible refine g_bm ?_
  | ((with_reducible refine g_new ?h ?_); (case h => walk_at "sd"); intro _ _)
  | ((with_reducible show tyV _ "list" _ _ ∧ _); refine g_tyL (by walk_at "sq") ?_)
  | ((with_reducible show rAppend _ _ _ _); refine g_app (by walk_at "at") (by walk_at "sd") ?_)
  | with_reducible refine g_intI ?_
  | with_reducible refine g_iRng1 ?_
  | ((with_reducible refine g_rng ?h ?_); (case h => walk_at "sd"))
  | with_reducible refine g_meth ?_
  | ((with_reducible show rMeth _ _ _ _ _ _ _ _ _ _); refine g_meth1 (by walk_at "at") rfl ?_)
  | ((with_reducible show rMethS _ _ _ _ _ _ _ _ _); refine g_methS1 (by walk_at "at") rfl ?_)
  | with_reducible refine g_methS ?_
  | with_reducible refine g_if ?_
  | with_reducible refine g_un ?_
  | with_reducible refine g_isNi ?_
  | with_reducible refine g_isNn ?_
  | with_reducible refine g_isNr ?_
  | with_reducible refine g_isNs ?_
  | with_reducible refine g_isN ?_
  | with_reducible refine g_stF ?_
  | with_reducible refine g_make ?_
  | ((with_reducible show tTruK _ _ _ _ _); refine g_tru ?_)
  | with_reducible refine g_fldA ?_
  | with_reducible refine g_dpop1 ?_
  | ((with_reducible show rDP1 _ _ _ _ _); refine g_dp1 (by walk_at "at") ?_)
  | with_reducible refine g_methV ?_
  | with_reducible refine g_rev ?_
  | with_reducible refine g_revT ?_
  | with_reducible refine g_cKw ?_
  | with_reducible refine g_chain3 ?_
  | ((with_reducible show tDisp _ _ _ _); refine g_disp ?_; intro _ _)
  | with_reducible refine g_pcons ?_
  | with_reducible refine g_pnil ?_
  | with_reducible refine g_dget ?_
  | with_reducible refine g_daug ?_
  | with_reducible refine g_dc ?_
  | with_reducible refine g_callV ?_
  | with_reducible refine g_prop ?_
  | ((with_reducible show rProp _ _ _ _ _ _ _); refine g_prop1 (by walk_at "at") ?_)
  | with_reducible refine g_par ?_
  | ((with_reducible show rPar _ _ _ _ _ _); refine g_par1 ?_)
  | with_reducible refine g_iVals ?_
  | ((with_reducible show rIVals _ _ _); refine g_vls (by walk_at "at") ?_)
  | with_reducible refine g_dpop2 ?_
  | ((with_reducible show rDP2 _ _ _ _ _ _); refine g_dp2 (by walk_at "at") ?_)
  | ((with_reducible show rIn _ false _ _ _ _); refine g_inL (by walk_at "sq") ?_)
  | ((with_reducible show rIn _ true _ _ _ _); refine g_ninL (by walk_at "sq") ?_)
  | ((with_reducible show rIn _ false _ _ _ _); refine g_inT (by walk_at "sq") ?_)
  | ((with_reducible show rIn _ true _ _ _ _); refine g_ninT (by walk_at "sq") ?_)
  | ((with_reducible show gTup _ _ _ _ _ _ _); refine g_gtup4 (by walk_at "sq") ?_)
  | ((with_reducible show gTup _ _ _ _ _ _ _); refine g_gtup3 (by walk_at "sq") ?_)
  | ((with_reducible show rTupOf _ _ _ _); refine g_tupL (by walk_at "sq") ?_; intro _ _)
  | ((with_reducible show rCatA _ _ _ _ _); refine g_catA (by walk_at "sq") (by walk_at "sq") (by first | decide | (simp only [List.length_append, List.length_cons, List.length_nil, List.length_map]; omega)) (fun _ _ _ _ => ?_))
  | ((with_reducible show rIsO _ _ _ _); refine g_isO (by walk_at "at") ?_)
  | ((with_reducible show rLenD _ _ _); refine g_lenD (by walk_at "at") ?_)
  | with_reducible refine g_makeS ?_
  | ((with_reducible show gTup _ _ _ _ _ _ _); refine g_gtup5 (by walk_at "sq") ?_)
  | with_reducible refine g_min2 ?_
  | with_reducible refine g_chain ?_
  | with_reducible refine g_rU ?_
  | with_reducible refine g_andV ?_
  | with_reducible refine g_orV ?_
  | with_reducible refine g_notV ?_
  | with_reducible refine g_lst ?_
  | with_reducible refine g_bm0 ?_
  | with_reducible refine g_m1 ?_
  | with_reducible refine g_m0 ?_
  | with_reducible refine g_sl ?_
  | with_reducible refine g_nop ?_
  | with_reducible refine g_part ?_
  | with_reducible refine g_isI ?_
  | with_reducible refine g_isS ?_
  | with_reducible refine g_intB ?_
  | with_reducible refine g_abs ?_
  | with_reducible refine g_max2 ?_
  | with_reducible refine g_tyS ?_
  | with_reducible refine g_ordS ?_
  | with_reducible refine g_cmpS ?_
  | with_reducible refine g_ninS ?_
  | with_reducible refine g_ntNi ?_
  | with_reducible refine g_ntNn ?_
  | with_reducible refine g_ntNr ?_
  | with_reducible refine g_ntNs ?_
  | with_reducible refine g_notN ?_
  | with_reducible refine g_inS ?_
  | with_reducible refine g_iTup ?_
  | with_reducible refine g_iStr ?_
  | with_reducible refine g_atS ?_
  | with_reducible refine g_iEnum ?_
  | ((with_reducible show rIEn _ _ _ _); refine g_enL (by walk_at "sq") ?_)
  | ((with_reducible refine g_lenS ?h ?_); (case h => walk_at "sd"))
  | ((with_reducible refine g_strI ?h ?_); (case h => walk_at "sd"))
  | ((with_reducible refine g_addS ?h ?_); (case h => walk_at "sd"))
  | ((with_reducible show rIT _ _ _ _); refine g_atT (by walk_at "sq") ?_)
  | ((with_reducible show rSlL _ _ _ _ _ _); refine g_slL (by walk_at "sq") ?_; intro _ _)
  | ((with_reducible refine g_slS ?h ?_); (case h => walk_at "sd"))
  | ((with_reducible show tAug _ _ _ _ _ _); refine g_aug rfl ?_)
  | with_reducible refine g_ipI ?_
  | with_reducible refine g_fmt ?_
  | with_reducible refine g_jsN ?_
  | with_reducible refine g_jsC ?_
  | ((with_reducible refine g_jsS ?h ?_); (case h => walk_at "sd"))
  | ((with_reducible refine g_fmtI ?h ?_); (case h => walk_at "sd"))
  | ((with_reducible refine g_fmtS ?h ?_); (case h => walk_at "sd"))
  | ((with_reducible show rAll _ _ _ _); refine g_allF (by walk_at "sq") ?_)
  | ((with_reducible show gTup _ _ _ _ _ _ _); refine g_gtup2 (by walk_at "sq") ?_)
  | ((with_reducible show rRjust _ _ _ _); refine g_rjust (by first | rfl | decide) (by first | rfl | decide) ?_)
  | ((with_reducible show rSplitMax _ _ _ _); refine g_splitMax (by first | rfl | decide) (by first | decide | omega) (by walk_at "sd") ?_; intro _ _)
  | ((with_reducible show rSplit _ _ _ _); refine g_split (by first | rfl | decide) (by walk_at "sd") ?_; intro _ _)
  | ((with_reducible show wipe _ _ = wipe _ _ ∧ _); refine ⟨rfl, ?_⟩)
  | ((with_reducible show _ ≤ sizeLine ∧ _); refine ⟨by walk_at "sd", ?_⟩)
  | ((with_reducible show rIxS _ _ _ _); refine g_ixS (by walk_at "sd") (by exact at_codes (by omega) (by first | omega | (rw [← len_tl]; omega))) ?_)
  | ((with_reducible show rMulS _ _ _ _); refine g_mulS (by first | decide | omega) (by decide +kernel) ?_)
  | ((with_reducible show rListOf _ _ _ _); refine g_listL (by walk_at "sq") ?_; intro _ _)
  | ((with_reducible show rListOf _ _ _ _); refine g_listT (by walk_at "sq") ?_; intro _ _)
  | ((with_reducible show tDNewK _ _ _); refine g_dnew ?_; intro _ _)
  | with_reducible refine g_raise ?_
  | with_reducible refine g_callS ?_
  | ((with_reducible show rRaise _ _ _ _ _ _); refine g_raise1 ?_; intro _ _)
  | with_reducible refine g_xf ?_
  | ((with_reducible show rXf _ _ _ _ _ _ _ _); refine g_xf1 (by walk_at "at") (by rfl) ?_)
  | ((with_reducible show rIsED _ _ _ _ _ _ _ _); refine g_isED (by assumption) (by walk_at "at") ?_)
  | ((with_reducible show rCat _ _ _ _); refine g_cat (by walk_at "at") (by walk_at "at") (by first | omega | (refine fits_of ?_; simp only [List.length_append, List.length_cons, List.length_nil, List.length_map, List.length_take, List.length_drop]; omega)) ?_; intro _ _)
  | with_reducible refine g_repl1 ?_
  | with_reducible refine g_din ?_
  | with_reducible refine g_dnin ?_
  | with_reducible refine g_dput ?_
  | ((with_reducible show rDIn _ _ _ _); refine g_dinS (by walk_at "at") ?_)
  | ((with_reducible show rDNin _ _ _ _); refine g_dninS (by walk_at "at") ?_)
  | ((with_reducible show rDPut _ _ _ _ _ _); refine g_dputS (by walk_at "at") (by walk_at "sd") ?_)
  | with_reducible refine g_eqB ?_
  | with_reducible refine g_neB ?_
  | ((with_reducible show rInst _ _ _ _); refine g_instS (by walk_at "ki") ?_)
  | ((with_reducible show rInst _ _ _ _); refine g_instI (by walk_at "ki") ?_)
  | ((with_reducible show rInst _ _ _ _); refine g_instB (by walk_at "ki") ?_)
  | ((with_reducible show rInst _ _ _ _); refine g_instN (by walk_at "ki") ?_)
  | ((with_reducible show rInst _ _ _ _); refine g_instT (by walk_at "sq") (by walk_at "ki") ?_)
  | ((with_reducible show rInst _ _ _ _); refine g_instL (by walk_at "sq") (by walk_at "ki") ?_)
  | ((with_reducible show rSlT _ _ none (some 1) _ _); refine g_slT1 (by walk_at "sq") ?_; intro _ _)
  | ((with_reducible show rSlT _ _ (some 1) none _ _); refine g_slTt (by walk_at "sq") ?_; intro _ _)
  | ((with_reducible show if (!true) = true then _ else _); refine w_no rfl ?_)
  | ((with_reducible show if (!false) = true then _ else _); refine w_yes rfl ?_))
theorem sc_is_name : FnScope ["text", "letter"] ["text"] (defScope s_is_name) := ⟨rfl, rfl, rfl, by decide +kernel, rfl, by decide +kernel, by decide +kernel⟩
theorem sc_is_key : FnScope ["text", "letter"] ["text"] (defScope s_is_key) := ⟨rfl, rfl, rfl, by decide +kernel, rfl, by decide +kernel, by decide +kernel⟩
theorem sc_check_request : FnScope ["key", "group", "cost"] ["key", "group", "cost"] (defScope s_check_request) := ⟨rfl, rfl, rfl, by decide +kernel, rfl, by decide +kernel, by decide +kernel⟩
theorem sc_check_moment : FnScope ["moment"] ["moment"] (defScope s_check_moment) := ⟨rfl, rfl, rfl, by decide +kernel, rfl, by decide +kernel, by decide +kernel⟩
theorem sc_ascends : FnScope ["names", "k"] ["names"] (defScope s_ascends) := ⟨rfl, rfl, rfl, by decide +kernel, rfl, by decide +kernel, by decide +kernel⟩
theorem sc_check_names : FnScope ["names", "name"] ["names"] (defScope s_check_names) := ⟨rfl, rfl, rfl, by decide +kernel, rfl, by decide +kernel, by decide +kernel⟩
theorem sc_are_shares : FnScope ["shares", "share"] ["shares"] (defScope s_are_shares) := ⟨rfl, rfl, rfl, by decide +kernel, rfl, by decide +kernel, by decide +kernel⟩
theorem sc_has_form : FnScope ["word", "numbers", "number"] ["word", "numbers"] (defScope s_has_form) := ⟨rfl, rfl, rfl, by decide +kernel, rfl, by decide +kernel, by decide +kernel⟩
theorem sc_check_pool : FnScope ["groups", "most", "shares", "names", "_", "own", "ceiling", "share"] ["groups", "most", "shares"] (defScope s_check_pool) := ⟨rfl, rfl, rfl, by decide +kernel, rfl, by decide +kernel, by decide +kernel⟩
theorem sc_check_numbers : FnScope ["word", "numbers", "least", "number", "low"] ["word", "numbers"] (defScope s_check_numbers) := ⟨rfl, rfl, rfl, by decide +kernel, rfl, by decide +kernel, by decide +kernel⟩
theorem sc_check_limit : FnScope ["limit", "name", "word", "groups", "numbers", "share"] ["limit"] (defScope s_check_limit) := ⟨rfl, rfl, rfl, by decide +kernel, rfl, by decide +kernel, by decide +kernel⟩
theorem sc_looks_at : FnScope ["limit", "group", "_", "word", "groups", "numbers", "share"] ["limit", "group"] (defScope s_looks_at) := ⟨rfl, rfl, rfl, by decide +kernel, rfl, by decide +kernel, by decide +kernel⟩
theorem sc_first_of : FnScope ["limit"] ["limit"] (defScope s_first_of) := ⟨rfl, rfl, rfl, by decide +kernel, rfl, by decide +kernel, by decide +kernel⟩
theorem sc_common_of : FnScope ["limit", "most", "shares", "share"] ["limit"] (defScope s_common_of) := ⟨rfl, rfl, rfl, by decide +kernel, rfl, by decide +kernel, by decide +kernel⟩
theorem sc_share_for : FnScope ["limit", "group", "name", "own", "ceiling"] ["limit", "group"] (defScope s_share_for) := ⟨rfl, rfl, rfl, by decide +kernel, rfl, by decide +kernel, by decide +kernel⟩
theorem sc_meter_for : FnScope ["limit", "word"] ["limit"] (defScope s_meter_for) := ⟨rfl, rfl, rfl, by decide +kernel, rfl, by decide +kernel, by decide +kernel⟩
theorem sc__law_row : FnScope ["_law_cell", "_law_many", "_law_row_here", "_law_rest", "_law_state", "_law_k"] ["_law_cell", "_law_many"] (defScope s__law_row) := ⟨rfl, rfl, rfl, by decide +kernel, rfl, by decide +kernel, by decide +kernel⟩
theorem sc__law_numbers : FnScope ["_law_script", "_law_many", "_law_cells", "_law_each", "_law_numbers_here", "_law_cell", "_law_number"] ["_law_script", "_law_many"] (defScope s__law_numbers) := ⟨rfl, rfl, rfl, by decide +kernel, rfl, by decide +kernel, by decide +kernel⟩
theorem sc__law_is_integer : FnScope ["_law_actual"] ["_law_actual"] (defScope s__law_is_integer) := ⟨rfl, rfl, rfl, by decide +kernel, rfl, by decide +kernel, by decide +kernel⟩
theorem sc__law_names : FnScope ["_law_number", "_law_other", "_law_many", "_law_letters", "_law_size", "_law_place", "_law_rest", "_law_k", "_law_names_here", "_law_own"] ["_law_number", "_law_other", "_law_many"] (defScope s__law_names) := ⟨rfl, rfl, rfl, by decide +kernel, rfl, by decide +kernel, by decide +kernel⟩
theorem sc__law_keys : FnScope ["_law_number", "_law_other", "_law_many", "_law_letters", "_law_size", "_law_place", "_law_rest", "_law_k", "_law_keys_here", "_law_own"] ["_law_number", "_law_other", "_law_many"] (defScope s__law_keys) := ⟨rfl, rfl, rfl, by decide +kernel, rfl, by decide +kernel, by decide +kernel⟩
theorem sc__law_shares : FnScope ["_law_numbers_here", "_law_at", "_law_groups", "_law_shares_here", "_law_k", "_law_own"] ["_law_numbers_here", "_law_at", "_law_groups"] (defScope s__law_shares) := ⟨rfl, rfl, rfl, by decide +kernel, rfl, by decide +kernel, by decide +kernel⟩
theorem sc__law_limit : FnScope ["_law_numbers_here", "_law_at", "_law_name", "_law_groups", "_law_word", "_law_first", "_law_second", "_law_shares_here", "_law_looked", "_law_bits", "_law_share", "_law_k"] ["_law_numbers_here", "_law_at", "_law_name", "_law_groups"] (defScope s__law_limit) := ⟨rfl, rfl, rfl, by decide +kernel, rfl, by decide +kernel, by decide +kernel⟩
theorem sc__law_limits : FnScope ["_law_numbers_here", "_law_at", "_law_groups", "_law_names_here", "_law_limits_here", "_law_many", "_law_k", "_law_turn", "_law_place", "_law_row_here", "_law_j"] ["_law_numbers_here", "_law_at", "_law_groups"] (defScope s__law_limits) := ⟨rfl, rfl, rfl, by decide +kernel, rfl, by decide +kernel, by decide +kernel⟩
theorem sc__law_group_names : FnScope ["_law_numbers_here"] ["_law_numbers_here"] (defScope s__law_group_names) := ⟨rfl, rfl, rfl, by decide +kernel, rfl, by decide +kernel, by decide +kernel⟩
theorem sc__law_cost : FnScope ["_law_number"] ["_law_number"] (defScope s__law_cost) := ⟨rfl, rfl, rfl, by decide +kernel, rfl, by decide +kernel, by decide +kernel⟩
theorem sc__law_step : FnScope ["_law_number"] ["_law_number"] (defScope s__law_step) := ⟨rfl, rfl, rfl, by decide +kernel, rfl, by decide +kernel, by decide +kernel⟩
theorem sc__law_start : FnScope ["_law_first", "_law_second", "_law_kind"] ["_law_first", "_law_second"] (defScope s__law_start) := ⟨rfl, rfl, rfl, by decide +kernel, rfl, by decide +kernel, by decide +kernel⟩
theorem sc__law_after : FnScope ["_law_moment", "_law_number"] ["_law_moment", "_law_number"] (defScope s__law_after) := ⟨rfl, rfl, rfl, by decide +kernel, rfl, by decide +kernel, by decide +kernel⟩
theorem sc__law_looks : FnScope ["_law_limit_here", "_law_group", "_law_share"] ["_law_limit_here", "_law_group"] (defScope s__law_looks) := ⟨rfl, rfl, rfl, by decide +kernel, rfl, by decide +kernel, by decide +kernel⟩
theorem sc__law_pool_room : FnScope ["_law_numbers_here", "_law_held", "_law_group", "_law_cost_here", "_law_common", "_law_borrowed", "_law_name", "_law_own", "_law_ceiling", "_law_use", "_law_one"] ["_law_numbers_here", "_law_held", "_law_group", "_law_cost_here"] (defScope s__law_pool_room) := ⟨rfl, rfl, rfl, by decide +kernel, rfl, by decide +kernel, by decide +kernel⟩
theorem sc__law_room : FnScope ["_law_limit_here", "_law_lets", "_law_given", "_law_request", "_law_moment", "_law_key", "_law_group", "_law_cost_here", "_law_seen", "_law_word", "_law_numbers_here", "_law_since", "_law_spent", "_law_held", "_law_one"] ["_law_limit_here", "_law_lets", "_law_given", "_law_request", "_law_moment"] (defScope s__law_room) := ⟨rfl, rfl, rfl, by decide +kernel, rfl, by decide +kernel, by decide +kernel⟩
theorem sc__law_lacking : FnScope ["_law_limits_here", "_law_lets", "_law_given", "_law_request", "_law_moment", "_law_limit_here"] ["_law_limits_here", "_law_lets", "_law_given", "_law_request", "_law_moment"] (defScope s__law_lacking) := ⟨rfl, rfl, rfl, by decide +kernel, rfl, by decide +kernel, by decide +kernel⟩
theorem sc__law_is_never : FnScope ["_law_limits_here", "_law_lets", "_law_given", "_law_request", "_law_moment", "_law_limit_here"] ["_law_limits_here", "_law_lets", "_law_given", "_law_request", "_law_moment"] (defScope s__law_is_never) := ⟨rfl, rfl, rfl, by decide +kernel, rfl, by decide +kernel, by decide +kernel⟩
theorem sc__law_is_earliest : FnScope ["_law_earliest", "_law_limits_here", "_law_lets", "_law_given", "_law_request", "_law_moment"] ["_law_earliest", "_law_limits_here", "_law_lets", "_law_given", "_law_request", "_law_moment"] (defScope s__law_is_earliest) := ⟨rfl, rfl, rfl, by decide +kernel, rfl, by decide +kernel, by decide +kernel⟩
theorem sc__law_is_answer : FnScope ["_law_actual", "_law_limits_here", "_law_lets", "_law_given", "_law_request", "_law_moment", "_law_due"] ["_law_actual", "_law_limits_here", "_law_lets", "_law_given", "_law_request", "_law_moment"] (defScope s__law_is_answer) := ⟨rfl, rfl, rfl, by decide +kernel, rfl, by decide +kernel, by decide +kernel⟩
theorem sc__law_is_unknown : FnScope ["_law_keeper", "_law_key", "e"] ["_law_keeper", "_law_key"] (defScope s__law_is_unknown) := ⟨rfl, rfl, rfl, by decide +kernel, rfl, by decide +kernel, by decide +kernel⟩
theorem sc_law : FnScope ["_law_script", "_law_numbers_here", "_law_groups", "_law_limits_here", "_law_keys_here", "_law_keeper", "_law_lets", "_law_told", "_law_moment", "_law_k", "_law_first", "_law_second", "_law_request", "_law_answer"] ["_law_script"] (defScope s_law) := ⟨rfl, rfl, rfl, by decide +kernel, rfl, by decide +kernel, by decide +kernel⟩
theorem sc_Book_init : FnScope ["self", "limits", "limit", "names"] ["self", "limits"] (defScope s_Book_init) := ⟨rfl, rfl, rfl, by decide +kernel, rfl, by decide +kernel, by decide +kernel⟩
theorem sc_Book_limits : FnScope ["self"] ["self"] (defScope s_Book_limits) := ⟨rfl, rfl, rfl, by decide +kernel, rfl, by decide +kernel, by decide +kernel⟩
theorem sc_WindowMeter_init : FnScope ["self", "limit"] ["self", "limit"] (defScope s_WindowMeter_init) := ⟨rfl, rfl, rfl, by decide +kernel, rfl, by decide +kernel, by decide +kernel⟩
theorem sc_WindowMeter_sums_since : FnScope ["self", "moment", "row"] ["self", "moment"] (defScope s_WindowMeter_sums_since) := ⟨rfl, rfl, rfl, by decide +kernel, rfl, by decide +kernel, by decide +kernel⟩
theorem sc_WindowMeter_room : FnScope ["self", "moment", "group", "cost", "row"] ["self", "moment", "group", "cost"] (defScope s_WindowMeter_room) := ⟨rfl, rfl, rfl, by decide +kernel, rfl, by decide +kernel, by decide +kernel⟩
theorem sc_WindowMeter_earliest : FnScope ["self", "moment", "group", "cost", "rows", "used", "number", "row"] ["self", "moment", "group", "cost"] (defScope s_WindowMeter_earliest) := ⟨rfl, rfl, rfl, by decide +kernel, rfl, by decide +kernel, by decide +kernel⟩
theorem sc_WindowMeter_let : FnScope ["self", "moment", "group", "cost", "key", "rows"] ["self", "moment", "group", "cost", "key"] (defScope s_WindowMeter_let) := ⟨rfl, rfl, rfl, by decide +kernel, rfl, by decide +kernel, by decide +kernel⟩
theorem sc_SpanMeter_init : FnScope ["self", "limit"] ["self", "limit"] (defScope s_SpanMeter_init) := ⟨rfl, rfl, rfl, by decide +kernel, rfl, by decide +kernel, by decide +kernel⟩
theorem sc_SpanMeter_used_in : FnScope ["self", "moment"] ["self", "moment"] (defScope s_SpanMeter_used_in) := ⟨rfl, rfl, rfl, by decide +kernel, rfl, by decide +kernel, by decide +kernel⟩
theorem sc_SpanMeter_room : FnScope ["self", "moment", "group", "cost"] ["self", "moment", "group", "cost"] (defScope s_SpanMeter_room) := ⟨rfl, rfl, rfl, by decide +kernel, rfl, by decide +kernel, by decide +kernel⟩
theorem sc_SpanMeter_earliest : FnScope ["self", "moment", "group", "cost"] ["self", "moment", "group", "cost"] (defScope s_SpanMeter_earliest) := ⟨rfl, rfl, rfl, by decide +kernel, rfl, by decide +kernel, by decide +kernel⟩
theorem sc_SpanMeter_let : FnScope ["self", "moment", "group", "cost", "key"] ["self", "moment", "group", "cost", "key"] (defScope s_SpanMeter_let) := ⟨rfl, rfl, rfl, by decide +kernel, rfl, by decide +kernel, by decide +kernel⟩
theorem sc_BucketMeter_init : FnScope ["self", "limit"] ["self", "limit"] (defScope s_BucketMeter_init) := ⟨rfl, rfl, rfl, by decide +kernel, rfl, by decide +kernel, by decide +kernel⟩
theorem sc_BucketMeter_missing_at : FnScope ["self", "moment"] ["self", "moment"] (defScope s_BucketMeter_missing_at) := ⟨rfl, rfl, rfl, by decide +kernel, rfl, by decide +kernel, by decide +kernel⟩
theorem sc_BucketMeter_too_much : FnScope ["self", "moment", "cost"] ["self", "moment", "cost"] (defScope s_BucketMeter_too_much) := ⟨rfl, rfl, rfl, by decide +kernel, rfl, by decide +kernel, by decide +kernel⟩
theorem sc_BucketMeter_room : FnScope ["self", "moment", "group", "cost"] ["self", "moment", "group", "cost"] (defScope s_BucketMeter_room) := ⟨rfl, rfl, rfl, by decide +kernel, rfl, by decide +kernel, by decide +kernel⟩
theorem sc_BucketMeter_earliest : FnScope ["self", "moment", "group", "cost"] ["self", "moment", "group", "cost"] (defScope s_BucketMeter_earliest) := ⟨rfl, rfl, rfl, by decide +kernel, rfl, by decide +kernel, by decide +kernel⟩
theorem sc_BucketMeter_let : FnScope ["self", "moment", "group", "cost", "key"] ["self", "moment", "group", "cost", "key"] (defScope s_BucketMeter_let) := ⟨rfl, rfl, rfl, by decide +kernel, rfl, by decide +kernel, by decide +kernel⟩
theorem sc_GapMeter_init : FnScope ["self", "limit"] ["self", "limit"] (defScope s_GapMeter_init) := ⟨rfl, rfl, rfl, by decide +kernel, rfl, by decide +kernel, by decide +kernel⟩
theorem sc_GapMeter_room : FnScope ["self", "moment", "group", "cost"] ["self", "moment", "group", "cost"] (defScope s_GapMeter_room) := ⟨rfl, rfl, rfl, by decide +kernel, rfl, by decide +kernel, by decide +kernel⟩
theorem sc_GapMeter_earliest : FnScope ["self", "moment", "group", "cost"] ["self", "moment", "group", "cost"] (defScope s_GapMeter_earliest) := ⟨rfl, rfl, rfl, by decide +kernel, rfl, by decide +kernel, by decide +kernel⟩
theorem sc_GapMeter_let : FnScope ["self", "moment", "group", "cost", "key"] ["self", "moment", "group", "cost", "key"] (defScope s_GapMeter_let) := ⟨rfl, rfl, rfl, by decide +kernel, rfl, by decide +kernel, by decide +kernel⟩
theorem sc_HeldMeter_init : FnScope ["self", "limit"] ["self", "limit"] (defScope s_HeldMeter_init) := ⟨rfl, rfl, rfl, by decide +kernel, rfl, by decide +kernel, by decide +kernel⟩
theorem sc_HeldMeter_room : FnScope ["self", "moment", "group", "cost"] ["self", "moment", "group", "cost"] (defScope s_HeldMeter_room) := ⟨rfl, rfl, rfl, by decide +kernel, rfl, by decide +kernel, by decide +kernel⟩
theorem sc_HeldMeter_earliest : FnScope ["self", "moment", "group", "cost"] ["self", "moment", "group", "cost"] (defScope s_HeldMeter_earliest) := ⟨rfl, rfl, rfl, by decide +kernel, rfl, by decide +kernel, by decide +kernel⟩
theorem sc_HeldMeter_let : FnScope ["self", "moment", "group", "cost", "key"] ["self", "moment", "group", "cost", "key"] (defScope s_HeldMeter_let) := ⟨rfl, rfl, rfl, by decide +kernel, rfl, by decide +kernel, by decide +kernel⟩
theorem sc_PoolMeter_init : FnScope ["self", "limit", "share"] ["self", "limit"] (defScope s_PoolMeter_init) := ⟨rfl, rfl, rfl, by decide +kernel, rfl, by decide +kernel, by decide +kernel⟩
theorem sc_PoolMeter_borrowed : FnScope ["self", "group", "more", "total", "name", "own", "_", "used"] ["self", "group", "more"] (defScope s_PoolMeter_borrowed) := ⟨rfl, rfl, rfl, by decide +kernel, rfl, by decide +kernel, by decide +kernel⟩
theorem sc_PoolMeter_room : FnScope ["self", "moment", "group", "cost"] ["self", "moment", "group", "cost"] (defScope s_PoolMeter_room) := ⟨rfl, rfl, rfl, by decide +kernel, rfl, by decide +kernel, by decide +kernel⟩
theorem sc_PoolMeter_earliest : FnScope ["self", "moment", "group", "cost"] ["self", "moment", "group", "cost"] (defScope s_PoolMeter_earliest) := ⟨rfl, rfl, rfl, by decide +kernel, rfl, by decide +kernel, by decide +kernel⟩
theorem sc_PoolMeter_let : FnScope ["self", "moment", "group", "cost", "key"] ["self", "moment", "group", "cost", "key"] (defScope s_PoolMeter_let) := ⟨rfl, rfl, rfl, by decide +kernel, rfl, by decide +kernel, by decide +kernel⟩
theorem sc_Answer_init : FnScope ["self", "key", "moment", "lacking", "earliest"] ["self", "key", "moment", "lacking", "earliest"] (defScope s_Answer_init) := ⟨rfl, rfl, rfl, by decide +kernel, rfl, by decide +kernel, by decide +kernel⟩
theorem sc_Answer_parts : FnScope ["self"] ["self"] (defScope s_Answer_parts) := ⟨rfl, rfl, rfl, by decide +kernel, rfl, by decide +kernel, by decide +kernel⟩
theorem sc_Keeper_init : FnScope ["self", "book", "limit"] ["self", "book"] (defScope s_Keeper_init) := ⟨rfl, rfl, rfl, by decide +kernel, rfl, by decide +kernel, by decide +kernel⟩
theorem sc_Keeper__check_next : FnScope ["self", "moment"] ["self", "moment"] (defScope s_Keeper__check_next) := ⟨rfl, rfl, rfl, by decide +kernel, rfl, by decide +kernel, by decide +kernel⟩
theorem sc_Keeper__check_known : FnScope ["self", "key"] ["self", "key"] (defScope s_Keeper__check_known) := ⟨rfl, rfl, rfl, by decide +kernel, rfl, by decide +kernel, by decide +kernel⟩
theorem sc_Keeper__let : FnScope ["self", "key", "group", "cost", "moment", "_", "meter"] ["self", "key", "group", "cost", "moment"] (defScope s_Keeper__let) := ⟨rfl, rfl, rfl, by decide +kernel, rfl, by decide +kernel, by decide +kernel⟩
theorem sc_Keeper__earliest : FnScope ["self", "group", "cost", "moment", "found", "_", "meter"] ["self", "group", "cost", "moment"] (defScope s_Keeper__earliest) := ⟨rfl, rfl, rfl, by decide +kernel, rfl, by decide +kernel, by decide +kernel⟩
theorem sc_Keeper_ask : FnScope ["self", "request", "moment", "key", "group", "cost", "lacking", "earliest", "name", "meter"] ["self", "request", "moment"] (defScope s_Keeper_ask) := ⟨rfl, rfl, rfl, by decide +kernel, rfl, by decide +kernel, by decide +kernel⟩
theorem sc_Keeper_knows : FnScope ["self", "key"] ["self", "key"] (defScope s_Keeper_knows) := ⟨rfl, rfl, rfl, by decide +kernel, rfl, by decide +kernel, by decide +kernel⟩
theorem sc_Keeper_answer_of : FnScope ["self", "key", "_", "moment", "lacking", "earliest"] ["self", "key"] (defScope s_Keeper_answer_of) := ⟨rfl, rfl, rfl, by decide +kernel, rfl, by decide +kernel, by decide +kernel⟩
structure Ads where
  (w_SIZES p_Book_limits f_is_name f_is_key f_check_request f_check_moment f_ascends f_check_names f_are_shares f_has_form f_check_pool f_check_numbers f_check_limit f_looks_at f_first_of f_common_of f_share_for f_meter_for f__law_row f__law_numbers f__law_is_integer f__law_names f__law_keys f__law_shares f__law_limit f__law_limits f__law_group_names f__law_cost f__law_step f__law_start f__law_after f__law_looks f__law_pool_room f__law_room f__law_lacking f__law_is_never f__law_is_earliest f__law_is_answer f__law_is_unknown f_law f_Book_init f_Book_limits f_WindowMeter_init f_WindowMeter_sums_since f_WindowMeter_room f_WindowMeter_earliest f_WindowMeter_let f_SpanMeter_init f_SpanMeter_used_in f_SpanMeter_room f_SpanMeter_earliest f_SpanMeter_let f_BucketMeter_init f_BucketMeter_missing_at f_BucketMeter_too_much f_BucketMeter_room f_BucketMeter_earliest f_BucketMeter_let f_GapMeter_init f_GapMeter_room f_GapMeter_earliest f_GapMeter_let f_HeldMeter_init f_HeldMeter_room f_HeldMeter_earliest f_HeldMeter_let f_PoolMeter_init f_PoolMeter_borrowed f_PoolMeter_room f_PoolMeter_earliest f_PoolMeter_let f_Answer_init f_Answer_parts f_Keeper_init f_Keeper__check_next f_Keeper__check_known f_Keeper__let f_Keeper__earliest f_Keeper_ask f_Keeper_knows f_Keeper_answer_of f_KeyKnown i_KeyKnown f_UnknownKey i_UnknownKey f_EarlierMoment i_EarlierMoment f_InvalidName f_InvalidRequest f_InvalidLimit f_InvalidBook f_TooLarge c_Book c_WindowMeter c_SpanMeter c_BucketMeter c_GapMeter c_HeldMeter c_PoolMeter c_Answer c_Keeper : Addr)
  (d_is_name d_is_key d_check_request d_check_moment d_ascends d_check_names d_are_shares d_has_form d_check_pool d_check_numbers d_check_limit d_looks_at d_first_of d_common_of d_share_for d_meter_for d__law_row d__law_numbers d__law_is_integer d__law_names d__law_keys d__law_shares d__law_limit d__law_limits d__law_group_names d__law_cost d__law_step d__law_start d__law_after d__law_looks d__law_pool_room d__law_room d__law_lacking d__law_is_never d__law_is_earliest d__law_is_answer d__law_is_unknown d_law d_Book_init d_Book_limits d_WindowMeter_init d_WindowMeter_sums_since d_WindowMeter_room d_WindowMeter_earliest d_WindowMeter_let d_SpanMeter_init d_SpanMeter_used_in d_SpanMeter_room d_SpanMeter_earliest d_SpanMeter_let d_BucketMeter_init d_BucketMeter_missing_at d_BucketMeter_too_much d_BucketMeter_room d_BucketMeter_earliest d_BucketMeter_let d_GapMeter_init d_GapMeter_room d_GapMeter_earliest d_GapMeter_let d_HeldMeter_init d_HeldMeter_room d_HeldMeter_earliest d_HeldMeter_let d_PoolMeter_init d_PoolMeter_borrowed d_PoolMeter_room d_PoolMeter_earliest d_PoolMeter_let d_Answer_init d_Answer_parts d_Keeper_init d_Keeper__check_next d_Keeper__check_known d_Keeper__let d_Keeper__earliest d_Keeper_ask d_Keeper_knows d_Keeper_answer_of : FuncData)
structure Txt (P : Program) (w : World) (K : PySem.W.Frag) (mg : Str → Option Value) (a : Ads) : Prop where
  g_SIZES : mg "SIZES" = some (.ref a.w_SIZES)
  w_SIZES : WDct K w a.w_SIZES [("window", .int 2), ("span", .int 2), ("bucket", .int 2), ("gap", .int 1), ("held", .int 1), ("pool", .int 2)]
  F_is_name : Fun K "is_name" "is_name" s_is_name a.f_is_name a.d_is_name
  g_is_name : mg "is_name" = some (.ref a.f_is_name)
  b_is_name : Binds K a.d_is_name ["text"] []
  F_is_key : Fun K "is_key" "is_key" s_is_key a.f_is_key a.d_is_key
  g_is_key : mg "is_key" = some (.ref a.f_is_key)
  b_is_key : Binds K a.d_is_key ["text"] []
  F_check_request : Fun K "check_request" "check_request" s_check_request a.f_check_request a.d_check_request
  g_check_request : mg "check_request" = some (.ref a.f_check_request)
  b_check_request : Binds K a.d_check_request ["key", "group", "cost"] []
  F_check_moment : Fun K "check_moment" "check_moment" s_check_moment a.f_check_moment a.d_check_moment
  g_check_moment : mg "check_moment" = some (.ref a.f_check_moment)
  b_check_moment : Binds K a.d_check_moment ["moment"] []
  F_ascends : Fun K "ascends" "ascends" s_ascends a.f_ascends a.d_ascends
  g_ascends : mg "ascends" = some (.ref a.f_ascends)
  b_ascends : Binds K a.d_ascends ["names"] []
  F_check_names : Fun K "check_names" "check_names" s_check_names a.f_check_names a.d_check_names
  g_check_names : mg "check_names" = some (.ref a.f_check_names)
  b_check_names : Binds K a.d_check_names ["names"] []
  F_are_shares : Fun K "are_shares" "are_shares" s_are_shares a.f_are_shares a.d_are_shares
  g_are_shares : mg "are_shares" = some (.ref a.f_are_shares)
  b_are_shares : Binds K a.d_are_shares ["shares"] []
  F_has_form : Fun K "has_form" "has_form" s_has_form a.f_has_form a.d_has_form
  g_has_form : mg "has_form" = some (.ref a.f_has_form)
  b_has_form : Binds K a.d_has_form ["word", "numbers"] []
  F_check_pool : Fun K "check_pool" "check_pool" s_check_pool a.f_check_pool a.d_check_pool
  g_check_pool : mg "check_pool" = some (.ref a.f_check_pool)
  b_check_pool : Binds K a.d_check_pool ["groups", "most", "shares"] []
  F_check_numbers : Fun K "check_numbers" "check_numbers" s_check_numbers a.f_check_numbers a.d_check_numbers
  g_check_numbers : mg "check_numbers" = some (.ref a.f_check_numbers)
  b_check_numbers : Binds K a.d_check_numbers ["word", "numbers"] []
  F_check_limit : Fun K "check_limit" "check_limit" s_check_limit a.f_check_limit a.d_check_limit
  g_check_limit : mg "check_limit" = some (.ref a.f_check_limit)
  b_check_limit : Binds K a.d_check_limit ["limit"] []
  F_looks_at : Fun K "looks_at" "looks_at" s_looks_at a.f_looks_at a.d_looks_at
  g_looks_at : mg "looks_at" = some (.ref a.f_looks_at)
  b_looks_at : Binds K a.d_looks_at ["limit", "group"] []
  F_first_of : Fun K "first_of" "first_of" s_first_of a.f_first_of a.d_first_of
  g_first_of : mg "first_of" = some (.ref a.f_first_of)
  b_first_of : Binds K a.d_first_of ["limit"] []
  F_common_of : Fun K "common_of" "common_of" s_common_of a.f_common_of a.d_common_of
  g_common_of : mg "common_of" = some (.ref a.f_common_of)
  b_common_of : Binds K a.d_common_of ["limit"] []
  F_share_for : Fun K "share_for" "share_for" s_share_for a.f_share_for a.d_share_for
  g_share_for : mg "share_for" = some (.ref a.f_share_for)
  b_share_for : Binds K a.d_share_for ["limit", "group"] []
  F_meter_for : Fun K "meter_for" "meter_for" s_meter_for a.f_meter_for a.d_meter_for
  g_meter_for : mg "meter_for" = some (.ref a.f_meter_for)
  b_meter_for : Binds K a.d_meter_for ["limit"] []
  F__law_row : Fun K "_law_row" "_law_row" s__law_row a.f__law_row a.d__law_row
  g__law_row : mg "_law_row" = some (.ref a.f__law_row)
  b__law_row : Binds K a.d__law_row ["_law_cell", "_law_many"] []
  F__law_numbers : Fun K "_law_numbers" "_law_numbers" s__law_numbers a.f__law_numbers a.d__law_numbers
  g__law_numbers : mg "_law_numbers" = some (.ref a.f__law_numbers)
  b__law_numbers : Binds K a.d__law_numbers ["_law_script", "_law_many"] []
  F__law_is_integer : Fun K "_law_is_integer" "_law_is_integer" s__law_is_integer a.f__law_is_integer a.d__law_is_integer
  g__law_is_integer : mg "_law_is_integer" = some (.ref a.f__law_is_integer)
  b__law_is_integer : Binds K a.d__law_is_integer ["_law_actual"] []
  F__law_names : Fun K "_law_names" "_law_names" s__law_names a.f__law_names a.d__law_names
  g__law_names : mg "_law_names" = some (.ref a.f__law_names)
  b__law_names : Binds K a.d__law_names ["_law_number", "_law_other", "_law_many"] []
  F__law_keys : Fun K "_law_keys" "_law_keys" s__law_keys a.f__law_keys a.d__law_keys
  g__law_keys : mg "_law_keys" = some (.ref a.f__law_keys)
  b__law_keys : Binds K a.d__law_keys ["_law_number", "_law_other", "_law_many"] []
  F__law_shares : Fun K "_law_shares" "_law_shares" s__law_shares a.f__law_shares a.d__law_shares
  g__law_shares : mg "_law_shares" = some (.ref a.f__law_shares)
  b__law_shares : Binds K a.d__law_shares ["_law_numbers_here", "_law_at", "_law_groups"] []
  F__law_limit : Fun K "_law_limit" "_law_limit" s__law_limit a.f__law_limit a.d__law_limit
  g__law_limit : mg "_law_limit" = some (.ref a.f__law_limit)
  b__law_limit : Binds K a.d__law_limit ["_law_numbers_here", "_law_at", "_law_name", "_law_groups"] []
  F__law_limits : Fun K "_law_limits" "_law_limits" s__law_limits a.f__law_limits a.d__law_limits
  g__law_limits : mg "_law_limits" = some (.ref a.f__law_limits)
  b__law_limits : Binds K a.d__law_limits ["_law_numbers_here", "_law_at", "_law_groups"] []
  F__law_group_names : Fun K "_law_group_names" "_law_group_names" s__law_group_names a.f__law_group_names a.d__law_group_names
  g__law_group_names : mg "_law_group_names" = some (.ref a.f__law_group_names)
  b__law_group_names : Binds K a.d__law_group_names ["_law_numbers_here"] []
  F__law_cost : Fun K "_law_cost" "_law_cost" s__law_cost a.f__law_cost a.d__law_cost
  g__law_cost : mg "_law_cost" = some (.ref a.f__law_cost)
  b__law_cost : Binds K a.d__law_cost ["_law_number"] []
  F__law_step : Fun K "_law_step" "_law_step" s__law_step a.f__law_step a.d__law_step
  g__law_step : mg "_law_step" = some (.ref a.f__law_step)
  b__law_step : Binds K a.d__law_step ["_law_number"] []
  F__law_start : Fun K "_law_start" "_law_start" s__law_start a.f__law_start a.d__law_start
  g__law_start : mg "_law_start" = some (.ref a.f__law_start)
  b__law_start : Binds K a.d__law_start ["_law_first", "_law_second"] []
  F__law_after : Fun K "_law_after" "_law_after" s__law_after a.f__law_after a.d__law_after
  g__law_after : mg "_law_after" = some (.ref a.f__law_after)
  b__law_after : Binds K a.d__law_after ["_law_moment", "_law_number"] []
  F__law_looks : Fun K "_law_looks" "_law_looks" s__law_looks a.f__law_looks a.d__law_looks
  g__law_looks : mg "_law_looks" = some (.ref a.f__law_looks)
  b__law_looks : Binds K a.d__law_looks ["_law_limit_here", "_law_group"] []
  F__law_pool_room : Fun K "_law_pool_room" "_law_pool_room" s__law_pool_room a.f__law_pool_room a.d__law_pool_room
  g__law_pool_room : mg "_law_pool_room" = some (.ref a.f__law_pool_room)
  b__law_pool_room : Binds K a.d__law_pool_room ["_law_numbers_here", "_law_held", "_law_group", "_law_cost_here"] []
  F__law_room : Fun K "_law_room" "_law_room" s__law_room a.f__law_room a.d__law_room
  g__law_room : mg "_law_room" = some (.ref a.f__law_room)
  b__law_room : Binds K a.d__law_room ["_law_limit_here", "_law_lets", "_law_given", "_law_request", "_law_moment"] []
  F__law_lacking : Fun K "_law_lacking" "_law_lacking" s__law_lacking a.f__law_lacking a.d__law_lacking
  g__law_lacking : mg "_law_lacking" = some (.ref a.f__law_lacking)
  b__law_lacking : Binds K a.d__law_lacking ["_law_limits_here", "_law_lets", "_law_given", "_law_request", "_law_moment"] []
  F__law_is_never : Fun K "_law_is_never" "_law_is_never" s__law_is_never a.f__law_is_never a.d__law_is_never
  g__law_is_never : mg "_law_is_never" = some (.ref a.f__law_is_never)
  b__law_is_never : Binds K a.d__law_is_never ["_law_limits_here", "_law_lets", "_law_given", "_law_request", "_law_moment"] []
  F__law_is_earliest : Fun K "_law_is_earliest" "_law_is_earliest" s__law_is_earliest a.f__law_is_earliest a.d__law_is_earliest
  g__law_is_earliest : mg "_law_is_earliest" = some (.ref a.f__law_is_earliest)
  b__law_is_earliest : Binds K a.d__law_is_earliest ["_law_earliest", "_law_limits_here", "_law_lets", "_law_given", "_law_request", "_law_moment"] []
  F__law_is_answer : Fun K "_law_is_answer" "_law_is_answer" s__law_is_answer a.f__law_is_answer a.d__law_is_answer
  g__law_is_answer : mg "_law_is_answer" = some (.ref a.f__law_is_answer)
  b__law_is_answer : Binds K a.d__law_is_answer ["_law_actual", "_law_limits_here", "_law_lets", "_law_given", "_law_request", "_law_moment"] []
  F__law_is_unknown : Fun K "_law_is_unknown" "_law_is_unknown" s__law_is_unknown a.f__law_is_unknown a.d__law_is_unknown
  g__law_is_unknown : mg "_law_is_unknown" = some (.ref a.f__law_is_unknown)
  b__law_is_unknown : Binds K a.d__law_is_unknown ["_law_keeper", "_law_key"] []
  F_law : Fun K "law" "law" s_law a.f_law a.d_law
  g_law : mg "law" = some (.ref a.f_law)
  b_law : Binds K a.d_law ["_law_script"] []
  F_Book_init : Fun K "__init__" "Book.__init__" s_Book_init a.f_Book_init a.d_Book_init
  b_Book_init : Binds K a.d_Book_init ["self", "limits"] []
  F_Book_limits : Fun K "limits" "Book.limits" s_Book_limits a.f_Book_limits a.d_Book_limits
  pr_Book_limits : PropOf K a.c_Book "limits" a.p_Book_limits a.f_Book_limits
  b_Book_limits : Binds K a.d_Book_limits ["self"] []
  F_WindowMeter_init : Fun K "__init__" "WindowMeter.__init__" s_WindowMeter_init a.f_WindowMeter_init a.d_WindowMeter_init
  b_WindowMeter_init : Binds K a.d_WindowMeter_init ["self", "limit"] []
  F_WindowMeter_sums_since : Fun K "sums_since" "WindowMeter.sums_since" s_WindowMeter_sums_since a.f_WindowMeter_sums_since a.d_WindowMeter_sums_since
  me_WindowMeter_sums_since : Meth K a.c_WindowMeter "sums_since" a.f_WindowMeter_sums_since
  b_WindowMeter_sums_since : Binds K a.d_WindowMeter_sums_since ["self", "moment"] []
  F_WindowMeter_room : Fun K "room" "WindowMeter.room" s_WindowMeter_room a.f_WindowMeter_room a.d_WindowMeter_room
  me_WindowMeter_room : Meth K a.c_WindowMeter "room" a.f_WindowMeter_room
  b_WindowMeter_room : Binds K a.d_WindowMeter_room ["self", "moment", "group", "cost"] []
  F_WindowMeter_earliest : Fun K "earliest" "WindowMeter.earliest" s_WindowMeter_earliest a.f_WindowMeter_earliest a.d_WindowMeter_earliest
  me_WindowMeter_earliest : Meth K a.c_WindowMeter "earliest" a.f_WindowMeter_earliest
  b_WindowMeter_earliest : Binds K a.d_WindowMeter_earliest ["self", "moment", "group", "cost"] []
  F_WindowMeter_let : Fun K "let" "WindowMeter.let" s_WindowMeter_let a.f_WindowMeter_let a.d_WindowMeter_let
  me_WindowMeter_let : Meth K a.c_WindowMeter "let" a.f_WindowMeter_let
  b_WindowMeter_let : Binds K a.d_WindowMeter_let ["self", "moment", "group", "cost", "key"] []
  F_SpanMeter_init : Fun K "__init__" "SpanMeter.__init__" s_SpanMeter_init a.f_SpanMeter_init a.d_SpanMeter_init
  b_SpanMeter_init : Binds K a.d_SpanMeter_init ["self", "limit"] []
  F_SpanMeter_used_in : Fun K "used_in" "SpanMeter.used_in" s_SpanMeter_used_in a.f_SpanMeter_used_in a.d_SpanMeter_used_in
  me_SpanMeter_used_in : Meth K a.c_SpanMeter "used_in" a.f_SpanMeter_used_in
  b_SpanMeter_used_in : Binds K a.d_SpanMeter_used_in ["self", "moment"] []
  F_SpanMeter_room : Fun K "room" "SpanMeter.room" s_SpanMeter_room a.f_SpanMeter_room a.d_SpanMeter_room
  me_SpanMeter_room : Meth K a.c_SpanMeter "room" a.f_SpanMeter_room
  b_SpanMeter_room : Binds K a.d_SpanMeter_room ["self", "moment", "group", "cost"] []
  F_SpanMeter_earliest : Fun K "earliest" "SpanMeter.earliest" s_SpanMeter_earliest a.f_SpanMeter_earliest a.d_SpanMeter_earliest
  me_SpanMeter_earliest : Meth K a.c_SpanMeter "earliest" a.f_SpanMeter_earliest
  b_SpanMeter_earliest : Binds K a.d_SpanMeter_earliest ["self", "moment", "group", "cost"] []
  F_SpanMeter_let : Fun K "let" "SpanMeter.let" s_SpanMeter_let a.f_SpanMeter_let a.d_SpanMeter_let
  me_SpanMeter_let : Meth K a.c_SpanMeter "let" a.f_SpanMeter_let
  b_SpanMeter_let : Binds K a.d_SpanMeter_let ["self", "moment", "group", "cost", "key"] []
  F_BucketMeter_init : Fun K "__init__" "BucketMeter.__init__" s_BucketMeter_init a.f_BucketMeter_init a.d_BucketMeter_init
  b_BucketMeter_init : Binds K a.d_BucketMeter_init ["self", "limit"] []
  F_BucketMeter_missing_at : Fun K "missing_at" "BucketMeter.missing_at" s_BucketMeter_missing_at a.f_BucketMeter_missing_at a.d_BucketMeter_missing_at
  me_BucketMeter_missing_at : Meth K a.c_BucketMeter "missing_at" a.f_BucketMeter_missing_at
  b_BucketMeter_missing_at : Binds K a.d_BucketMeter_missing_at ["self", "moment"] []
  F_BucketMeter_too_much : Fun K "too_much" "BucketMeter.too_much" s_BucketMeter_too_much a.f_BucketMeter_too_much a.d_BucketMeter_too_much
  me_BucketMeter_too_much : Meth K a.c_BucketMeter "too_much" a.f_BucketMeter_too_much
  b_BucketMeter_too_much : Binds K a.d_BucketMeter_too_much ["self", "moment", "cost"] []
  F_BucketMeter_room : Fun K "room" "BucketMeter.room" s_BucketMeter_room a.f_BucketMeter_room a.d_BucketMeter_room
  me_BucketMeter_room : Meth K a.c_BucketMeter "room" a.f_BucketMeter_room
  b_BucketMeter_room : Binds K a.d_BucketMeter_room ["self", "moment", "group", "cost"] []
  F_BucketMeter_earliest : Fun K "earliest" "BucketMeter.earliest" s_BucketMeter_earliest a.f_BucketMeter_earliest a.d_BucketMeter_earliest
  me_BucketMeter_earliest : Meth K a.c_BucketMeter "earliest" a.f_BucketMeter_earliest
  b_BucketMeter_earliest : Binds K a.d_BucketMeter_earliest ["self", "moment", "group", "cost"] []
  F_BucketMeter_let : Fun K "let" "BucketMeter.let" s_BucketMeter_let a.f_BucketMeter_let a.d_BucketMeter_let
  me_BucketMeter_let : Meth K a.c_BucketMeter "let" a.f_BucketMeter_let
  b_BucketMeter_let : Binds K a.d_BucketMeter_let ["self", "moment", "group", "cost", "key"] []
  F_GapMeter_init : Fun K "__init__" "GapMeter.__init__" s_GapMeter_init a.f_GapMeter_init a.d_GapMeter_init
  b_GapMeter_init : Binds K a.d_GapMeter_init ["self", "limit"] []
  F_GapMeter_room : Fun K "room" "GapMeter.room" s_GapMeter_room a.f_GapMeter_room a.d_GapMeter_room
  me_GapMeter_room : Meth K a.c_GapMeter "room" a.f_GapMeter_room
  b_GapMeter_room : Binds K a.d_GapMeter_room ["self", "moment", "group", "cost"] []
  F_GapMeter_earliest : Fun K "earliest" "GapMeter.earliest" s_GapMeter_earliest a.f_GapMeter_earliest a.d_GapMeter_earliest
  me_GapMeter_earliest : Meth K a.c_GapMeter "earliest" a.f_GapMeter_earliest
  b_GapMeter_earliest : Binds K a.d_GapMeter_earliest ["self", "moment", "group", "cost"] []
  F_GapMeter_let : Fun K "let" "GapMeter.let" s_GapMeter_let a.f_GapMeter_let a.d_GapMeter_let
  me_GapMeter_let : Meth K a.c_GapMeter "let" a.f_GapMeter_let
  b_GapMeter_let : Binds K a.d_GapMeter_let ["self", "moment", "group", "cost", "key"] []
  F_HeldMeter_init : Fun K "__init__" "HeldMeter.__init__" s_HeldMeter_init a.f_HeldMeter_init a.d_HeldMeter_init
  b_HeldMeter_init : Binds K a.d_HeldMeter_init ["self", "limit"] []
  F_HeldMeter_room : Fun K "room" "HeldMeter.room" s_HeldMeter_room a.f_HeldMeter_room a.d_HeldMeter_room
  me_HeldMeter_room : Meth K a.c_HeldMeter "room" a.f_HeldMeter_room
  b_HeldMeter_room : Binds K a.d_HeldMeter_room ["self", "moment", "group", "cost"] []
  F_HeldMeter_earliest : Fun K "earliest" "HeldMeter.earliest" s_HeldMeter_earliest a.f_HeldMeter_earliest a.d_HeldMeter_earliest
  me_HeldMeter_earliest : Meth K a.c_HeldMeter "earliest" a.f_HeldMeter_earliest
  b_HeldMeter_earliest : Binds K a.d_HeldMeter_earliest ["self", "moment", "group", "cost"] []
  F_HeldMeter_let : Fun K "let" "HeldMeter.let" s_HeldMeter_let a.f_HeldMeter_let a.d_HeldMeter_let
  me_HeldMeter_let : Meth K a.c_HeldMeter "let" a.f_HeldMeter_let
  b_HeldMeter_let : Binds K a.d_HeldMeter_let ["self", "moment", "group", "cost", "key"] []
  F_PoolMeter_init : Fun K "__init__" "PoolMeter.__init__" s_PoolMeter_init a.f_PoolMeter_init a.d_PoolMeter_init
  b_PoolMeter_init : Binds K a.d_PoolMeter_init ["self", "limit"] []
  F_PoolMeter_borrowed : Fun K "borrowed" "PoolMeter.borrowed" s_PoolMeter_borrowed a.f_PoolMeter_borrowed a.d_PoolMeter_borrowed
  me_PoolMeter_borrowed : Meth K a.c_PoolMeter "borrowed" a.f_PoolMeter_borrowed
  b_PoolMeter_borrowed : Binds K a.d_PoolMeter_borrowed ["self", "group", "more"] []
  F_PoolMeter_room : Fun K "room" "PoolMeter.room" s_PoolMeter_room a.f_PoolMeter_room a.d_PoolMeter_room
  me_PoolMeter_room : Meth K a.c_PoolMeter "room" a.f_PoolMeter_room
  b_PoolMeter_room : Binds K a.d_PoolMeter_room ["self", "moment", "group", "cost"] []
  F_PoolMeter_earliest : Fun K "earliest" "PoolMeter.earliest" s_PoolMeter_earliest a.f_PoolMeter_earliest a.d_PoolMeter_earliest
  me_PoolMeter_earliest : Meth K a.c_PoolMeter "earliest" a.f_PoolMeter_earliest
  b_PoolMeter_earliest : Binds K a.d_PoolMeter_earliest ["self", "moment", "group", "cost"] []
  F_PoolMeter_let : Fun K "let" "PoolMeter.let" s_PoolMeter_let a.f_PoolMeter_let a.d_PoolMeter_let
  me_PoolMeter_let : Meth K a.c_PoolMeter "let" a.f_PoolMeter_let
  b_PoolMeter_let : Binds K a.d_PoolMeter_let ["self", "moment", "group", "cost", "key"] []
  F_Answer_init : Fun K "__init__" "Answer.__init__" s_Answer_init a.f_Answer_init a.d_Answer_init
  b_Answer_init : Binds K a.d_Answer_init ["self", "key", "moment", "lacking", "earliest"] []
  F_Answer_parts : Fun K "parts" "Answer.parts" s_Answer_parts a.f_Answer_parts a.d_Answer_parts
  me_Answer_parts : Meth K a.c_Answer "parts" a.f_Answer_parts
  b_Answer_parts : Binds K a.d_Answer_parts ["self"] []
  F_Keeper_init : Fun K "__init__" "Keeper.__init__" s_Keeper_init a.f_Keeper_init a.d_Keeper_init
  b_Keeper_init : Binds K a.d_Keeper_init ["self", "book"] []
  F_Keeper__check_next : Fun K "_check_next" "Keeper._check_next" s_Keeper__check_next a.f_Keeper__check_next a.d_Keeper__check_next
  me_Keeper__check_next : Meth K a.c_Keeper "_check_next" a.f_Keeper__check_next
  b_Keeper__check_next : Binds K a.d_Keeper__check_next ["self", "moment"] []
  F_Keeper__check_known : Fun K "_check_known" "Keeper._check_known" s_Keeper__check_known a.f_Keeper__check_known a.d_Keeper__check_known
  me_Keeper__check_known : Meth K a.c_Keeper "_check_known" a.f_Keeper__check_known
  b_Keeper__check_known : Binds K a.d_Keeper__check_known ["self", "key"] []
  F_Keeper__let : Fun K "_let" "Keeper._let" s_Keeper__let a.f_Keeper__let a.d_Keeper__let
  me_Keeper__let : Meth K a.c_Keeper "_let" a.f_Keeper__let
  b_Keeper__let : Binds K a.d_Keeper__let ["self", "key", "group", "cost", "moment"] []
  F_Keeper__earliest : Fun K "_earliest" "Keeper._earliest" s_Keeper__earliest a.f_Keeper__earliest a.d_Keeper__earliest
  me_Keeper__earliest : Meth K a.c_Keeper "_earliest" a.f_Keeper__earliest
  b_Keeper__earliest : Binds K a.d_Keeper__earliest ["self", "group", "cost", "moment"] []
  F_Keeper_ask : Fun K "ask" "Keeper.ask" s_Keeper_ask a.f_Keeper_ask a.d_Keeper_ask
  me_Keeper_ask : Meth K a.c_Keeper "ask" a.f_Keeper_ask
  b_Keeper_ask : Binds K a.d_Keeper_ask ["self", "request", "moment"] []
  F_Keeper_knows : Fun K "knows" "Keeper.knows" s_Keeper_knows a.f_Keeper_knows a.d_Keeper_knows
  me_Keeper_knows : Meth K a.c_Keeper "knows" a.f_Keeper_knows
  b_Keeper_knows : Binds K a.d_Keeper_knows ["self", "key"] []
  F_Keeper_answer_of : Fun K "answer_of" "Keeper.answer_of" s_Keeper_answer_of a.f_Keeper_answer_of a.d_Keeper_answer_of
  me_Keeper_answer_of : Meth K a.c_Keeper "answer_of" a.f_Keeper_answer_of
  b_Keeper_answer_of : Binds K a.d_Keeper_answer_of ["self", "key"] []
  z_abs : mg "abs" = none
  z_all : mg "all" = none
  z_bool : mg "bool" = none
  z_int : mg "int" = none
  z_isinstance : mg "isinstance" = none
  z_len : mg "len" = none
  z_list : mg "list" = none
  z_max : mg "max" = none
  z_min : mg "min" = none
  z_range : mg "range" = none
  z_set : mg "set" = none
  z_sorted : mg "sorted" = none
  z_sum : mg "sum" = none
  z_tuple : mg "tuple" = none
  z_zip : mg "zip" = none
  c_LETTERS : ∃ u, mg "LETTERS" = some u ∧ RelV (.str "abcdefghijklmnopqrstuvwxyz0123456789") u
  c_MOST_MOMENT : ∃ u, mg "MOST_MOMENT" = some u ∧ RelV (.int 1000000000) u
  c_MOST_NUMBER : ∃ u, mg "MOST_NUMBER" = some u ∧ RelV (.int 1000000) u
  c_MOST_KEYS : ∃ u, mg "MOST_KEYS" = some u ∧ RelV (.int 2000) u
  e_KeyKnown : PySem.LwX.ErrTxt P.main.file K mg "KeyKnown" "key" a.f_KeyKnown a.i_KeyKnown
  x_KeyKnown : ExcC K a.f_KeyKnown
  e_UnknownKey : PySem.LwX.ErrTxt P.main.file K mg "UnknownKey" "key" a.f_UnknownKey a.i_UnknownKey
  x_UnknownKey : ExcC K a.f_UnknownKey
  e_EarlierMoment : PySem.LwX.ErrTxt P.main.file K mg "EarlierMoment" "moment" a.f_EarlierMoment a.i_EarlierMoment
  x_EarlierMoment : ExcC K a.f_EarlierMoment
  cl_Book : Cls K a.c_Book
  g_Book : mg "Book" = some (.ref a.c_Book)
  k_Book : Mk K a.c_Book a.f_Book_init
  nf_Book__limits : NoAttr K a.c_Book "_limits"
  cl_WindowMeter : Cls K a.c_WindowMeter
  g_WindowMeter : mg "WindowMeter" = some (.ref a.c_WindowMeter)
  k_WindowMeter : Mk K a.c_WindowMeter a.f_WindowMeter_init
  nf_WindowMeter_limit : NoAttr K a.c_WindowMeter "limit"
  nf_WindowMeter__sums : NoAttr K a.c_WindowMeter "_sums"
  nf_WindowMeter__most : NoAttr K a.c_WindowMeter "_most"
  nf_WindowMeter__length : NoAttr K a.c_WindowMeter "_length"
  cl_SpanMeter : Cls K a.c_SpanMeter
  g_SpanMeter : mg "SpanMeter" = some (.ref a.c_SpanMeter)
  k_SpanMeter : Mk K a.c_SpanMeter a.f_SpanMeter_init
  nf_SpanMeter_limit : NoAttr K a.c_SpanMeter "limit"
  nf_SpanMeter__span : NoAttr K a.c_SpanMeter "_span"
  nf_SpanMeter__used : NoAttr K a.c_SpanMeter "_used"
  nf_SpanMeter__most : NoAttr K a.c_SpanMeter "_most"
  nf_SpanMeter__length : NoAttr K a.c_SpanMeter "_length"
  cl_BucketMeter : Cls K a.c_BucketMeter
  g_BucketMeter : mg "BucketMeter" = some (.ref a.c_BucketMeter)
  k_BucketMeter : Mk K a.c_BucketMeter a.f_BucketMeter_init
  nf_BucketMeter_limit : NoAttr K a.c_BucketMeter "limit"
  nf_BucketMeter__missing : NoAttr K a.c_BucketMeter "_missing"
  nf_BucketMeter__moment : NoAttr K a.c_BucketMeter "_moment"
  nf_BucketMeter__size : NoAttr K a.c_BucketMeter "_size"
  nf_BucketMeter__every : NoAttr K a.c_BucketMeter "_every"
  cl_GapMeter : Cls K a.c_GapMeter
  g_GapMeter : mg "GapMeter" = some (.ref a.c_GapMeter)
  k_GapMeter : Mk K a.c_GapMeter a.f_GapMeter_init
  nf_GapMeter_limit : NoAttr K a.c_GapMeter "limit"
  nf_GapMeter__ticks : NoAttr K a.c_GapMeter "_ticks"
  nf_GapMeter__last : NoAttr K a.c_GapMeter "_last"
  cl_HeldMeter : Cls K a.c_HeldMeter
  g_HeldMeter : mg "HeldMeter" = some (.ref a.c_HeldMeter)
  k_HeldMeter : Mk K a.c_HeldMeter a.f_HeldMeter_init
  nf_HeldMeter_limit : NoAttr K a.c_HeldMeter "limit"
  nf_HeldMeter__most : NoAttr K a.c_HeldMeter "_most"
  nf_HeldMeter__costs : NoAttr K a.c_HeldMeter "_costs"
  nf_HeldMeter__used : NoAttr K a.c_HeldMeter "_used"
  cl_PoolMeter : Cls K a.c_PoolMeter
  g_PoolMeter : mg "PoolMeter" = some (.ref a.c_PoolMeter)
  k_PoolMeter : Mk K a.c_PoolMeter a.f_PoolMeter_init
  nf_PoolMeter_limit : NoAttr K a.c_PoolMeter "limit"
  nf_PoolMeter__costs : NoAttr K a.c_PoolMeter "_costs"
  nf_PoolMeter__uses : NoAttr K a.c_PoolMeter "_uses"
  cl_Answer : Cls K a.c_Answer
  g_Answer : mg "Answer" = some (.ref a.c_Answer)
  k_Answer : Mk K a.c_Answer a.f_Answer_init
  nf_Answer_key : NoAttr K a.c_Answer "key"
  nf_Answer_moment : NoAttr K a.c_Answer "moment"
  nf_Answer_lacking : NoAttr K a.c_Answer "lacking"
  nf_Answer_earliest : NoAttr K a.c_Answer "earliest"
  nf_Answer_is_let : NoAttr K a.c_Answer "is_let"
  io_Answer : OwnIs K a.c_Answer
  cl_Keeper : Cls K a.c_Keeper
  g_Keeper : mg "Keeper" = some (.ref a.c_Keeper)
  k_Keeper : Mk K a.c_Keeper a.f_Keeper_init
  nf_Keeper_book : NoAttr K a.c_Keeper "book"
  nf_Keeper_moment : NoAttr K a.c_Keeper "moment"
  nf_Keeper__meters : NoAttr K a.c_Keeper "_meters"
  nf_Keeper__asked : NoAttr K a.c_Keeper "_asked"
  nf_Keeper__released : NoAttr K a.c_Keeper "_released"
  e_InvalidName : PlainTxt K mg "InvalidName" a.f_InvalidName
  e_InvalidRequest : PlainTxt K mg "InvalidRequest" a.f_InvalidRequest
  e_InvalidLimit : PlainTxt K mg "InvalidLimit" a.f_InvalidLimit
  e_InvalidBook : PlainTxt K mg "InvalidBook" a.f_InvalidBook
  e_TooLarge : PlainTxt K mg "TooLarge" a.f_TooLarge
  top : (P.main.scope.names.lookup ("super" : Str)).isSome = false
theorem txtH {w : World} {K : PySem.W.Frag} {h : Heap} {mg : Str → Option Value} (X : K.In h) (G : h.Ns mainGlobals mg) (c : Hd.SaysH hdEx hdFn hdTb hdTk w K) : ∃ a : Ads, a.f_law = He.ga K "law" ∧ (∀ (s : Shared) (v : Value), BindsTo s a.d_law ⟨[v], []⟩ [("_law_script", v)]) ∧ Txt PySem.Challenge.rw_limitweave_k25_answers.prog w K mg a := by
  obtain ⟨es_SIZES, nn_SIZES, hk_SIZES, hke_SIZES⟩ := c.tab 0 rfl rfl
  have wv_SIZES := fun (q : Str × He.Dv) => He.valsB_ok (c.bool (b := He.valsB K (He.ga K "SIZES") [(("window" : Str), He.Dv.int 2), (("span" : Str), He.Dv.int 2), (("bucket" : Str), He.Dv.int 2), (("gap" : Str), He.Dv.int 1), (("held" : Str), He.Dv.int 1), (("pool" : Str), He.Dv.int 2)]) 0 0 rfl rfl) (q := q)
  have wd_SIZES : WDct K w (He.ga K "SIZES") [("window", .int 2), ("span", .int 2), ("bucket", .int 2), ("gap", .int 1), ("held", .int 1), ("pool", .int 2)] := by
    refine ⟨_, _, hk_SIZES.at_, hk_SIZES.lit, hk_SIZES.low, fun q hq => ?_⟩
    simp only [List.mem_cons, List.not_mem_nil, or_false] at hq
    rcases hq with rfl | rfl | rfl | rfl | rfl | rfl
    · exact wv_SIZES ("window", He.Dv.int 2) (List.mem_of_getElem? (i := 0) rfl)
    · exact wv_SIZES ("span", He.Dv.int 2) (List.mem_of_getElem? (i := 1) rfl)
    · exact wv_SIZES ("bucket", He.Dv.int 2) (List.mem_of_getElem? (i := 2) rfl)
    · exact wv_SIZES ("gap", He.Dv.int 1) (List.mem_of_getElem? (i := 3) rfl)
    · exact wv_SIZES ("held", He.Dv.int 1) (List.mem_of_getElem? (i := 4) rfl)
    · exact wv_SIZES ("pool", He.Dv.int 2) (List.mem_of_getElem? (i := 5) rfl)
  obtain ⟨d0, F0⟩ := Hd.fun_fact (f := fun K => He.ga K "is_name") (x := "is_name") (q := "is_name") (st := s_is_name) (c.fnc 0 rfl) (c.bool (b := Hd.codeB K (He.ga K "is_name") "is_name") 0 2 rfl rfl) (c.bool (b := PySem.W.keepIn K (.ref (He.ga K "is_name"))) 0 3 rfl rfl)
  have b0 := F0.binds (ps := ["text"]) fun _ _ _ _ _ _ us hl => match us, hl with | [_], _ => rfl
  obtain ⟨d1, F1⟩ := Hd.fun_fact (f := fun K => He.ga K "is_key") (x := "is_key") (q := "is_key") (st := s_is_key) (c.fnc 1 rfl) (c.bool (b := Hd.codeB K (He.ga K "is_key") "is_key") 0 5 rfl rfl) (c.bool (b := PySem.W.keepIn K (.ref (He.ga K "is_key"))) 0 6 rfl rfl)
  have b1 := F1.binds (ps := ["text"]) fun _ _ _ _ _ _ us hl => match us, hl with | [_], _ => rfl
  obtain ⟨d2, F2⟩ := Hd.fun_fact (f := fun K => He.ga K "check_request") (x := "check_request") (q := "check_request") (st := s_check_request) (c.fnc 2 rfl) (c.bool (b := Hd.codeB K (He.ga K "check_request") "check_request") 0 8 rfl rfl) (c.bool (b := PySem.W.keepIn K (.ref (He.ga K "check_request"))) 0 9 rfl rfl)
  have b2 := F2.binds (ps := ["key", "group", "cost"]) fun _ _ _ _ _ _ us hl => match us, hl with | [_, _, _], _ => rfl
  obtain ⟨d3, F3⟩ := Hd.fun_fact (f := fun K => He.ga K "check_moment") (x := "check_moment") (q := "check_moment") (st := s_check_moment) (c.fnc 3 rfl) (c.bool (b := Hd.codeB K (He.ga K "check_moment") "check_moment") 0 11 rfl rfl) (c.bool (b := PySem.W.keepIn K (.ref (He.ga K "check_moment"))) 0 12 rfl rfl)
  have b3 := F3.binds (ps := ["moment"]) fun _ _ _ _ _ _ us hl => match us, hl with | [_], _ => rfl
  obtain ⟨d4, F4⟩ := Hd.fun_fact (f := fun K => He.ga K "ascends") (x := "ascends") (q := "ascends") (st := s_ascends) (c.fnc 4 rfl) (c.bool (b := Hd.codeB K (He.ga K "ascends") "ascends") 0 14 rfl rfl) (c.bool (b := PySem.W.keepIn K (.ref (He.ga K "ascends"))) 0 15 rfl rfl)
  have b4 := F4.binds (ps := ["names"]) fun _ _ _ _ _ _ us hl => match us, hl with | [_], _ => rfl
  obtain ⟨d5, F5⟩ := Hd.fun_fact (f := fun K => He.ga K "check_names") (x := "check_names") (q := "check_names") (st := s_check_names) (c.fnc 5 rfl) (c.bool (b := Hd.codeB K (He.ga K "check_names") "check_names") 0 17 rfl rfl) (c.bool (b := PySem.W.keepIn K (.ref (He.ga K "check_names"))) 0 18 rfl rfl)
  have b5 := F5.binds (ps := ["names"]) fun _ _ _ _ _ _ us hl => match us, hl with | [_], _ => rfl
  obtain ⟨d6, F6⟩ := Hd.fun_fact (f := fun K => He.ga K "are_shares") (x := "are_shares") (q := "are_shares") (st := s_are_shares) (c.fnc 6 rfl) (c.bool (b := Hd.codeB K (He.ga K "are_shares") "are_shares") 0 20 rfl rfl) (c.bool (b := PySem.W.keepIn K (.ref (He.ga K "are_shares"))) 0 21 rfl rfl)
  have b6 := F6.binds (ps := ["shares"]) fun _ _ _ _ _ _ us hl => match us, hl with | [_], _ => rfl
  obtain ⟨d7, F7⟩ := Hd.fun_fact (f := fun K => He.ga K "has_form") (x := "has_form") (q := "has_form") (st := s_has_form) (c.fnc 7 rfl) (c.bool (b := Hd.codeB K (He.ga K "has_form") "has_form") 0 23 rfl rfl) (c.bool (b := PySem.W.keepIn K (.ref (He.ga K "has_form"))) 0 24 rfl rfl)
  have b7 := F7.binds (ps := ["word", "numbers"]) fun _ _ _ _ _ _ us hl => match us, hl with | [_, _], _ => rfl
  obtain ⟨d8, F8⟩ := Hd.fun_fact (f := fun K => He.ga K "check_pool") (x := "check_pool") (q := "check_pool") (st := s_check_pool) (c.fnc 8 rfl) (c.bool (b := Hd.codeB K (He.ga K "check_pool") "check_pool") 0 26 rfl rfl) (c.bool (b := PySem.W.keepIn K (.ref (He.ga K "check_pool"))) 0 27 rfl rfl)
  have b8 := F8.binds (ps := ["groups", "most", "shares"]) fun _ _ _ _ _ _ us hl => match us, hl with | [_, _, _], _ => rfl
  obtain ⟨d9, F9⟩ := Hd.fun_fact (f := fun K => He.ga K "check_numbers") (x := "check_numbers") (q := "check_numbers") (st := s_check_numbers) (c.fnc 9 rfl) (c.bool (b := Hd.codeB K (He.ga K "check_numbers") "check_numbers") 0 29 rfl rfl) (c.bool (b := PySem.W.keepIn K (.ref (He.ga K "check_numbers"))) 0 30 rfl rfl)
  have b9 := F9.binds (ps := ["word", "numbers"]) fun _ _ _ _ _ _ us hl => match us, hl with | [_, _], _ => rfl
  obtain ⟨d10, F10⟩ := Hd.fun_fact (f := fun K => He.ga K "check_limit") (x := "check_limit") (q := "check_limit") (st := s_check_limit) (c.fnc 10 rfl) (c.bool (b := Hd.codeB K (He.ga K "check_limit") "check_limit") 0 32 rfl rfl) (c.bool (b := PySem.W.keepIn K (.ref (He.ga K "check_limit"))) 0 33 rfl rfl)
  have b10 := F10.binds (ps := ["limit"]) fun _ _ _ _ _ _ us hl => match us, hl with | [_], _ => rfl
  obtain ⟨d11, F11⟩ := Hd.fun_fact (f := fun K => He.ga K "looks_at") (x := "looks_at") (q := "looks_at") (st := s_looks_at) (c.fnc 11 rfl) (c.bool (b := Hd.codeB K (He.ga K "looks_at") "looks_at") 0 35 rfl rfl) (c.bool (b := PySem.W.keepIn K (.ref (He.ga K "looks_at"))) 0 36 rfl rfl)
  have b11 := F11.binds (ps := ["limit", "group"]) fun _ _ _ _ _ _ us hl => match us, hl with | [_, _], _ => rfl
  obtain ⟨d12, F12⟩ := Hd.fun_fact (f := fun K => He.ga K "first_of") (x := "first_of") (q := "first_of") (st := s_first_of) (c.fnc 12 rfl) (c.bool (b := Hd.codeB K (He.ga K "first_of") "first_of") 0 38 rfl rfl) (c.bool (b := PySem.W.keepIn K (.ref (He.ga K "first_of"))) 0 39 rfl rfl)
  have b12 := F12.binds (ps := ["limit"]) fun _ _ _ _ _ _ us hl => match us, hl with | [_], _ => rfl
  obtain ⟨d13, F13⟩ := Hd.fun_fact (f := fun K => He.ga K "common_of") (x := "common_of") (q := "common_of") (st := s_common_of) (c.fnc 13 rfl) (c.bool (b := Hd.codeB K (He.ga K "common_of") "common_of") 1 1 rfl rfl) (c.bool (b := PySem.W.keepIn K (.ref (He.ga K "common_of"))) 1 2 rfl rfl)
  have b13 := F13.binds (ps := ["limit"]) fun _ _ _ _ _ _ us hl => match us, hl with | [_], _ => rfl
  obtain ⟨d14, F14⟩ := Hd.fun_fact (f := fun K => He.ga K "share_for") (x := "share_for") (q := "share_for") (st := s_share_for) (c.fnc 14 rfl) (c.bool (b := Hd.codeB K (He.ga K "share_for") "share_for") 1 4 rfl rfl) (c.bool (b := PySem.W.keepIn K (.ref (He.ga K "share_for"))) 1 5 rfl rfl)
  have b14 := F14.binds (ps := ["limit", "group"]) fun _ _ _ _ _ _ us hl => match us, hl with | [_, _], _ => rfl
  obtain ⟨d15, F15⟩ := Hd.fun_fact (f := fun K => He.ga K "meter_for") (x := "meter_for") (q := "meter_for") (st := s_meter_for) (c.fnc 15 rfl) (c.bool (b := Hd.codeB K (He.ga K "meter_for") "meter_for") 1 7 rfl rfl) (c.bool (b := PySem.W.keepIn K (.ref (He.ga K "meter_for"))) 1 8 rfl rfl)
  have b15 := F15.binds (ps := ["limit"]) fun _ _ _ _ _ _ us hl => match us, hl with | [_], _ => rfl
  obtain ⟨d16, F16⟩ := Hd.fun_fact (f := fun K => He.ga K "_law_row") (x := "_law_row") (q := "_law_row") (st := s__law_row) (c.fnc 16 rfl) (c.bool (b := Hd.codeB K (He.ga K "_law_row") "_law_row") 1 10 rfl rfl) (c.bool (b := PySem.W.keepIn K (.ref (He.ga K "_law_row"))) 1 11 rfl rfl)
  have b16 := F16.binds (ps := ["_law_cell", "_law_many"]) fun _ _ _ _ _ _ us hl => match us, hl with | [_, _], _ => rfl
  obtain ⟨d17, F17⟩ := Hd.fun_fact (f := fun K => He.ga K "_law_numbers") (x := "_law_numbers") (q := "_law_numbers") (st := s__law_numbers) (c.fnc 17 rfl) (c.bool (b := Hd.codeB K (He.ga K "_law_numbers") "_law_numbers") 1 13 rfl rfl) (c.bool (b := PySem.W.keepIn K (.ref (He.ga K "_law_numbers"))) 1 14 rfl rfl)
  have b17 := F17.binds (ps := ["_law_script", "_law_many"]) fun _ _ _ _ _ _ us hl => match us, hl with | [_, _], _ => rfl
  obtain ⟨d18, F18⟩ := Hd.fun_fact (f := fun K => He.ga K "_law_is_integer") (x := "_law_is_integer") (q := "_law_is_integer") (st := s__law_is_integer) (c.fnc 18 rfl) (c.bool (b := Hd.codeB K (He.ga K "_law_is_integer") "_law_is_integer") 1 16 rfl rfl) (c.bool (b := PySem.W.keepIn K (.ref (He.ga K "_law_is_integer"))) 1 17 rfl rfl)
  have b18 := F18.binds (ps := ["_law_actual"]) fun _ _ _ _ _ _ us hl => match us, hl with | [_], _ => rfl
  obtain ⟨d19, F19⟩ := Hd.fun_fact (f := fun K => He.ga K "_law_names") (x := "_law_names") (q := "_law_names") (st := s__law_names) (c.fnc 19 rfl) (c.bool (b := Hd.codeB K (He.ga K "_law_names") "_law_names") 1 19 rfl rfl) (c.bool (b := PySem.W.keepIn K (.ref (He.ga K "_law_names"))) 1 20 rfl rfl)
  have b19 := F19.binds (ps := ["_law_number", "_law_other", "_law_many"]) fun _ _ _ _ _ _ us hl => match us, hl with | [_, _, _], _ => rfl
  obtain ⟨d20, F20⟩ := Hd.fun_fact (f := fun K => He.ga K "_law_keys") (x := "_law_keys") (q := "_law_keys") (st := s__law_keys) (c.fnc 20 rfl) (c.bool (b := Hd.codeB K (He.ga K "_law_keys") "_law_keys") 1 22 rfl rfl) (c.bool (b := PySem.W.keepIn K (.ref (He.ga K "_law_keys"))) 1 23 rfl rfl)
  have b20 := F20.binds (ps := ["_law_number", "_law_other", "_law_many"]) fun _ _ _ _ _ _ us hl => match us, hl with | [_, _, _], _ => rfl
  obtain ⟨d21, F21⟩ := Hd.fun_fact (f := fun K => He.ga K "_law_shares") (x := "_law_shares") (q := "_law_shares") (st := s__law_shares) (c.fnc 21 rfl) (c.bool (b := Hd.codeB K (He.ga K "_law_shares") "_law_shares") 1 25 rfl rfl) (c.bool (b := PySem.W.keepIn K (.ref (He.ga K "_law_shares"))) 1 26 rfl rfl)
  have b21 := F21.binds (ps := ["_law_numbers_here", "_law_at", "_law_groups"]) fun _ _ _ _ _ _ us hl => match us, hl with | [_, _, _], _ => rfl
  obtain ⟨d22, F22⟩ := Hd.fun_fact (f := fun K => He.ga K "_law_limit") (x := "_law_limit") (q := "_law_limit") (st := s__law_limit) (c.fnc 22 rfl) (c.bool (b := Hd.codeB K (He.ga K "_law_limit") "_law_limit") 1 28 rfl rfl) (c.bool (b := PySem.W.keepIn K (.ref (He.ga K "_law_limit"))) 1 29 rfl rfl)
  have b22 := F22.binds (ps := ["_law_numbers_here", "_law_at", "_law_name", "_law_groups"]) fun _ _ _ _ _ _ us hl => match us, hl with | [_, _, _, _], _ => rfl
  obtain ⟨d23, F23⟩ := Hd.fun_fact (f := fun K => He.ga K "_law_limits") (x := "_law_limits") (q := "_law_limits") (st := s__law_limits) (c.fnc 23 rfl) (c.bool (b := Hd.codeB K (He.ga K "_law_limits") "_law_limits") 1 31 rfl rfl) (c.bool (b := PySem.W.keepIn K (.ref (He.ga K "_law_limits"))) 1 32 rfl rfl)
  have b23 := F23.binds (ps := ["_law_numbers_here", "_law_at", "_law_groups"]) fun _ _ _ _ _ _ us hl => match us, hl with | [_, _, _], _ => rfl
  obtain ⟨d24, F24⟩ := Hd.fun_fact (f := fun K => He.ga K "_law_group_names") (x := "_law_group_names") (q := "_law_group_names") (st := s__law_group_names) (c.fnc 24 rfl) (c.bool (b := Hd.codeB K (He.ga K "_law_group_names") "_law_group_names") 1 34 rfl rfl) (c.bool (b := PySem.W.keepIn K (.ref (He.ga K "_law_group_names"))) 1 35 rfl rfl)
  have b24 := F24.binds (ps := ["_law_numbers_here"]) fun _ _ _ _ _ _ us hl => match us, hl with | [_], _ => rfl
  obtain ⟨d25, F25⟩ := Hd.fun_fact (f := fun K => He.ga K "_law_cost") (x := "_law_cost") (q := "_law_cost") (st := s__law_cost) (c.fnc 25 rfl) (c.bool (b := Hd.codeB K (He.ga K "_law_cost") "_law_cost") 1 37 rfl rfl) (c.bool (b := PySem.W.keepIn K (.ref (He.ga K "_law_cost"))) 1 38 rfl rfl)
  have b25 := F25.binds (ps := ["_law_number"]) fun _ _ _ _ _ _ us hl => match us, hl with | [_], _ => rfl
  obtain ⟨d26, F26⟩ := Hd.fun_fact (f := fun K => He.ga K "_law_step") (x := "_law_step") (q := "_law_step") (st := s__law_step) (c.fnc 26 rfl) (c.bool (b := Hd.codeB K (He.ga K "_law_step") "_law_step") 2 0 rfl rfl) (c.bool (b := PySem.W.keepIn K (.ref (He.ga K "_law_step"))) 2 1 rfl rfl)
  have b26 := F26.binds (ps := ["_law_number"]) fun _ _ _ _ _ _ us hl => match us, hl with | [_], _ => rfl
  obtain ⟨d27, F27⟩ := Hd.fun_fact (f := fun K => He.ga K "_law_start") (x := "_law_start") (q := "_law_start") (st := s__law_start) (c.fnc 27 rfl) (c.bool (b := Hd.codeB K (He.ga K "_law_start") "_law_start") 2 3 rfl rfl) (c.bool (b := PySem.W.keepIn K (.ref (He.ga K "_law_start"))) 2 4 rfl rfl)
  have b27 := F27.binds (ps := ["_law_first", "_law_second"]) fun _ _ _ _ _ _ us hl => match us, hl with | [_, _], _ => rfl
  obtain ⟨d28, F28⟩ := Hd.fun_fact (f := fun K => He.ga K "_law_after") (x := "_law_after") (q := "_law_after") (st := s__law_after) (c.fnc 28 rfl) (c.bool (b := Hd.codeB K (He.ga K "_law_after") "_law_after") 2 6 rfl rfl) (c.bool (b := PySem.W.keepIn K (.ref (He.ga K "_law_after"))) 2 7 rfl rfl)
  have b28 := F28.binds (ps := ["_law_moment", "_law_number"]) fun _ _ _ _ _ _ us hl => match us, hl with | [_, _], _ => rfl
  obtain ⟨d29, F29⟩ := Hd.fun_fact (f := fun K => He.ga K "_law_looks") (x := "_law_looks") (q := "_law_looks") (st := s__law_looks) (c.fnc 29 rfl) (c.bool (b := Hd.codeB K (He.ga K "_law_looks") "_law_looks") 2 9 rfl rfl) (c.bool (b := PySem.W.keepIn K (.ref (He.ga K "_law_looks"))) 2 10 rfl rfl)
  have b29 := F29.binds (ps := ["_law_limit_here", "_law_group"]) fun _ _ _ _ _ _ us hl => match us, hl with | [_, _], _ => rfl
  obtain ⟨d30, F30⟩ := Hd.fun_fact (f := fun K => He.ga K "_law_pool_room") (x := "_law_pool_room") (q := "_law_pool_room") (st := s__law_pool_room) (c.fnc 30 rfl) (c.bool (b := Hd.codeB K (He.ga K "_law_pool_room") "_law_pool_room") 2 12 rfl rfl) (c.bool (b := PySem.W.keepIn K (.ref (He.ga K "_law_pool_room"))) 2 13 rfl rfl)
  have b30 := F30.binds (ps := ["_law_numbers_here", "_law_held", "_law_group", "_law_cost_here"]) fun _ _ _ _ _ _ us hl => match us, hl with | [_, _, _, _], _ => rfl
  obtain ⟨d31, F31⟩ := Hd.fun_fact (f := fun K => He.ga K "_law_room") (x := "_law_room") (q := "_law_room") (st := s__law_room) (c.fnc 31 rfl) (c.bool (b := Hd.codeB K (He.ga K "_law_room") "_law_room") 2 15 rfl rfl) (c.bool (b := PySem.W.keepIn K (.ref (He.ga K "_law_room"))) 2 16 rfl rfl)
  have b31 := F31.binds (ps := ["_law_limit_here", "_law_lets", "_law_given", "_law_request", "_law_moment"]) fun _ _ _ _ _ _ us hl => match us, hl with | [_, _, _, _, _], _ => rfl
  obtain ⟨d32, F32⟩ := Hd.fun_fact (f := fun K => He.ga K "_law_lacking") (x := "_law_lacking") (q := "_law_lacking") (st := s__law_lacking) (c.fnc 32 rfl) (c.bool (b := Hd.codeB K (He.ga K "_law_lacking") "_law_lacking") 2 18 rfl rfl) (c.bool (b := PySem.W.keepIn K (.ref (He.ga K "_law_lacking"))) 2 19 rfl rfl)
  have b32 := F32.binds (ps := ["_law_limits_here", "_law_lets", "_law_given", "_law_request", "_law_moment"]) fun _ _ _ _ _ _ us hl => match us, hl with | [_, _, _, _, _], _ => rfl
  obtain ⟨d33, F33⟩ := Hd.fun_fact (f := fun K => He.ga K "_law_is_never") (x := "_law_is_never") (q := "_law_is_never") (st := s__law_is_never) (c.fnc 33 rfl) (c.bool (b := Hd.codeB K (He.ga K "_law_is_never") "_law_is_never") 2 21 rfl rfl) (c.bool (b := PySem.W.keepIn K (.ref (He.ga K "_law_is_never"))) 2 22 rfl rfl)
  have b33 := F33.binds (ps := ["_law_limits_here", "_law_lets", "_law_given", "_law_request", "_law_moment"]) fun _ _ _ _ _ _ us hl => match us, hl with | [_, _, _, _, _], _ => rfl
  obtain ⟨d34, F34⟩ := Hd.fun_fact (f := fun K => He.ga K "_law_is_earliest") (x := "_law_is_earliest") (q := "_law_is_earliest") (st := s__law_is_earliest) (c.fnc 34 rfl) (c.bool (b := Hd.codeB K (He.ga K "_law_is_earliest") "_law_is_earliest") 2 24 rfl rfl) (c.bool (b := PySem.W.keepIn K (.ref (He.ga K "_law_is_earliest"))) 2 25 rfl rfl)
  have b34 := F34.binds (ps := ["_law_earliest", "_law_limits_here", "_law_lets", "_law_given", "_law_request", "_law_moment"]) fun _ _ _ _ _ _ us hl => match us, hl with | [_, _, _, _, _, _], _ => rfl
  obtain ⟨d35, F35⟩ := Hd.fun_fact (f := fun K => He.ga K "_law_is_answer") (x := "_law_is_answer") (q := "_law_is_answer") (st := s__law_is_answer) (c.fnc 35 rfl) (c.bool (b := Hd.codeB K (He.ga K "_law_is_answer") "_law_is_answer") 2 27 rfl rfl) (c.bool (b := PySem.W.keepIn K (.ref (He.ga K "_law_is_answer"))) 2 28 rfl rfl)
  have b35 := F35.binds (ps := ["_law_actual", "_law_limits_here", "_law_lets", "_law_given", "_law_request", "_law_moment"]) fun _ _ _ _ _ _ us hl => match us, hl with | [_, _, _, _, _, _], _ => rfl
  obtain ⟨d36, F36⟩ := Hd.fun_fact (f := fun K => He.ga K "_law_is_unknown") (x := "_law_is_unknown") (q := "_law_is_unknown") (st := s__law_is_unknown) (c.fnc 36 rfl) (c.bool (b := Hd.codeB K (He.ga K "_law_is_unknown") "_law_is_unknown") 2 30 rfl rfl) (c.bool (b := PySem.W.keepIn K (.ref (He.ga K "_law_is_unknown"))) 2 31 rfl rfl)
  have b36 := F36.binds (ps := ["_law_keeper", "_law_key"]) fun _ _ _ _ _ _ us hl => match us, hl with | [_, _], _ => rfl
  obtain ⟨d37, F37⟩ := Hd.fun_fact (f := fun K => He.ga K "law") (x := "law") (q := "law") (st := s_law) (c.fnc 37 rfl) (c.bool (b := Hd.codeB K (He.ga K "law") "law") 2 33 rfl rfl) (c.bool (b := PySem.W.keepIn K (.ref (He.ga K "law"))) 2 34 rfl rfl)
  have b37 := F37.binds (ps := ["_law_script"]) fun _ _ _ _ _ _ us hl => match us, hl with | [_], _ => rfl
  obtain ⟨d38, F38⟩ := Hd.fun_fact (f := fun K => He.ma K (He.ga K "Book") "__init__") (x := "__init__") (q := "Book.__init__") (st := s_Book_init) (c.fnc 38 rfl) (c.bool (b := Hd.codeB K (He.ma K (He.ga K "Book") "__init__") "Book.__init__") 2 36 rfl rfl) (c.bool (b := PySem.W.keepIn K (.ref (He.ma K (He.ga K "Book") "__init__"))) 2 37 rfl rfl)
  have b38 := F38.binds (ps := ["self", "limits"]) fun _ _ _ _ _ _ us hl => match us, hl with | [_, _], _ => rfl
  obtain ⟨d39, F39⟩ := Hd.fun_fact (f := fun K => Hd.prF K (He.ga K "Book") "limits") (x := "limits") (q := "Book.limits") (st := s_Book_limits) (c.fnc 39 rfl) (c.bool (b := Hd.codeB K (Hd.prF K (He.ga K "Book") "limits") "Book.limits") 2 38 rfl rfl) (c.bool (b := PySem.W.keepIn K (.ref (Hd.prF K (He.ga K "Book") "limits"))) 2 39 rfl rfl)
  have b39 := F39.binds (ps := ["self"]) fun _ _ _ _ _ _ us hl => match us, hl with | [_], _ => rfl
  obtain ⟨d40, F40⟩ := Hd.fun_fact (f := fun K => He.ma K (He.ga K "WindowMeter") "__init__") (x := "__init__") (q := "WindowMeter.__init__") (st := s_WindowMeter_init) (c.fnc 40 rfl) (c.bool (b := Hd.codeB K (He.ma K (He.ga K "WindowMeter") "__init__") "WindowMeter.__init__") 3 4 rfl rfl) (c.bool (b := PySem.W.keepIn K (.ref (He.ma K (He.ga K "WindowMeter") "__init__"))) 3 5 rfl rfl)
  have b40 := F40.binds (ps := ["self", "limit"]) fun _ _ _ _ _ _ us hl => match us, hl with | [_, _], _ => rfl
  obtain ⟨d41, F41⟩ := Hd.fun_fact (f := fun K => He.ma K (He.ga K "WindowMeter") "sums_since") (x := "sums_since") (q := "WindowMeter.sums_since") (st := s_WindowMeter_sums_since) (c.fnc 41 rfl) (c.bool (b := Hd.codeB K (He.ma K (He.ga K "WindowMeter") "sums_since") "WindowMeter.sums_since") 3 6 rfl rfl) (c.bool (b := PySem.W.keepIn K (.ref (He.ma K (He.ga K "WindowMeter") "sums_since"))) 3 7 rfl rfl)
  have b41 := F41.binds (ps := ["self", "moment"]) fun _ _ _ _ _ _ us hl => match us, hl with | [_, _], _ => rfl
  obtain ⟨d42, F42⟩ := Hd.fun_fact (f := fun K => He.ma K (He.ga K "WindowMeter") "room") (x := "room") (q := "WindowMeter.room") (st := s_WindowMeter_room) (c.fnc 42 rfl) (c.bool (b := Hd.codeB K (He.ma K (He.ga K "WindowMeter") "room") "WindowMeter.room") 3 10 rfl rfl) (c.bool (b := PySem.W.keepIn K (.ref (He.ma K (He.ga K "WindowMeter") "room"))) 3 11 rfl rfl)
  have b42 := F42.binds (ps := ["self", "moment", "group", "cost"]) fun _ _ _ _ _ _ us hl => match us, hl with | [_, _, _, _], _ => rfl
  obtain ⟨d43, F43⟩ := Hd.fun_fact (f := fun K => He.ma K (He.ga K "WindowMeter") "earliest") (x := "earliest") (q := "WindowMeter.earliest") (st := s_WindowMeter_earliest) (c.fnc 43 rfl) (c.bool (b := Hd.codeB K (He.ma K (He.ga K "WindowMeter") "earliest") "WindowMeter.earliest") 3 14 rfl rfl) (c.bool (b := PySem.W.keepIn K (.ref (He.ma K (He.ga K "WindowMeter") "earliest"))) 3 15 rfl rfl)
  have b43 := F43.binds (ps := ["self", "moment", "group", "cost"]) fun _ _ _ _ _ _ us hl => match us, hl with | [_, _, _, _], _ => rfl
  obtain ⟨d44, F44⟩ := Hd.fun_fact (f := fun K => He.ma K (He.ga K "WindowMeter") "let") (x := "let") (q := "WindowMeter.let") (st := s_WindowMeter_let) (c.fnc 44 rfl) (c.bool (b := Hd.codeB K (He.ma K (He.ga K "WindowMeter") "let") "WindowMeter.let") 3 18 rfl rfl) (c.bool (b := PySem.W.keepIn K (.ref (He.ma K (He.ga K "WindowMeter") "let"))) 3 19 rfl rfl)
  have b44 := F44.binds (ps := ["self", "moment", "group", "cost", "key"]) fun _ _ _ _ _ _ us hl => match us, hl with | [_, _, _, _, _], _ => rfl
  obtain ⟨d45, F45⟩ := Hd.fun_fact (f := fun K => He.ma K (He.ga K "SpanMeter") "__init__") (x := "__init__") (q := "SpanMeter.__init__") (st := s_SpanMeter_init) (c.fnc 45 rfl) (c.bool (b := Hd.codeB K (He.ma K (He.ga K "SpanMeter") "__init__") "SpanMeter.__init__") 3 22 rfl rfl) (c.bool (b := PySem.W.keepIn K (.ref (He.ma K (He.ga K "SpanMeter") "__init__"))) 3 23 rfl rfl)
  have b45 := F45.binds (ps := ["self", "limit"]) fun _ _ _ _ _ _ us hl => match us, hl with | [_, _], _ => rfl
  obtain ⟨d46, F46⟩ := Hd.fun_fact (f := fun K => He.ma K (He.ga K "SpanMeter") "used_in") (x := "used_in") (q := "SpanMeter.used_in") (st := s_SpanMeter_used_in) (c.fnc 46 rfl) (c.bool (b := Hd.codeB K (He.ma K (He.ga K "SpanMeter") "used_in") "SpanMeter.used_in") 3 24 rfl rfl) (c.bool (b := PySem.W.keepIn K (.ref (He.ma K (He.ga K "SpanMeter") "used_in"))) 3 25 rfl rfl)
  have b46 := F46.binds (ps := ["self", "moment"]) fun _ _ _ _ _ _ us hl => match us, hl with | [_, _], _ => rfl
  obtain ⟨d47, F47⟩ := Hd.fun_fact (f := fun K => He.ma K (He.ga K "SpanMeter") "room") (x := "room") (q := "SpanMeter.room") (st := s_SpanMeter_room) (c.fnc 47 rfl) (c.bool (b := Hd.codeB K (He.ma K (He.ga K "SpanMeter") "room") "SpanMeter.room") 3 28 rfl rfl) (c.bool (b := PySem.W.keepIn K (.ref (He.ma K (He.ga K "SpanMeter") "room"))) 3 29 rfl rfl)
  have b47 := F47.binds (ps := ["self", "moment", "group", "cost"]) fun _ _ _ _ _ _ us hl => match us, hl with | [_, _, _, _], _ => rfl
  obtain ⟨d48, F48⟩ := Hd.fun_fact (f := fun K => He.ma K (He.ga K "SpanMeter") "earliest") (x := "earliest") (q := "SpanMeter.earliest") (st := s_SpanMeter_earliest) (c.fnc 48 rfl) (c.bool (b := Hd.codeB K (He.ma K (He.ga K "SpanMeter") "earliest") "SpanMeter.earliest") 3 32 rfl rfl) (c.bool (b := PySem.W.keepIn K (.ref (He.ma K (He.ga K "SpanMeter") "earliest"))) 3 33 rfl rfl)
  have b48 := F48.binds (ps := ["self", "moment", "group", "cost"]) fun _ _ _ _ _ _ us hl => match us, hl with | [_, _, _, _], _ => rfl
  obtain ⟨d49, F49⟩ := Hd.fun_fact (f := fun K => He.ma K (He.ga K "SpanMeter") "let") (x := "let") (q := "SpanMeter.let") (st := s_SpanMeter_let) (c.fnc 49 rfl) (c.bool (b := Hd.codeB K (He.ma K (He.ga K "SpanMeter") "let") "SpanMeter.let") 3 36 rfl rfl) (c.bool (b := PySem.W.keepIn K (.ref (He.ma K (He.ga K "SpanMeter") "let"))) 3 37 rfl rfl)
  have b49 := F49.binds (ps := ["self", "moment", "group", "cost", "key"]) fun _ _ _ _ _ _ us hl => match us, hl with | [_, _, _, _, _], _ => rfl
  obtain ⟨d50, F50⟩ := Hd.fun_fact (f := fun K => He.ma K (He.ga K "BucketMeter") "__init__") (x := "__init__") (q := "BucketMeter.__init__") (st := s_BucketMeter_init) (c.fnc 50 rfl) (c.bool (b := Hd.codeB K (He.ma K (He.ga K "BucketMeter") "__init__") "BucketMeter.__init__") 4 0 rfl rfl) (c.bool (b := PySem.W.keepIn K (.ref (He.ma K (He.ga K "BucketMeter") "__init__"))) 4 1 rfl rfl)
  have b50 := F50.binds (ps := ["self", "limit"]) fun _ _ _ _ _ _ us hl => match us, hl with | [_, _], _ => rfl
  obtain ⟨d51, F51⟩ := Hd.fun_fact (f := fun K => He.ma K (He.ga K "BucketMeter") "missing_at") (x := "missing_at") (q := "BucketMeter.missing_at") (st := s_BucketMeter_missing_at) (c.fnc 51 rfl) (c.bool (b := Hd.codeB K (He.ma K (He.ga K "BucketMeter") "missing_at") "BucketMeter.missing_at") 4 2 rfl rfl) (c.bool (b := PySem.W.keepIn K (.ref (He.ma K (He.ga K "BucketMeter") "missing_at"))) 4 3 rfl rfl)
  have b51 := F51.binds (ps := ["self", "moment"]) fun _ _ _ _ _ _ us hl => match us, hl with | [_, _], _ => rfl
  obtain ⟨d52, F52⟩ := Hd.fun_fact (f := fun K => He.ma K (He.ga K "BucketMeter") "too_much") (x := "too_much") (q := "BucketMeter.too_much") (st := s_BucketMeter_too_much) (c.fnc 52 rfl) (c.bool (b := Hd.codeB K (He.ma K (He.ga K "BucketMeter") "too_much") "BucketMeter.too_much") 4 6 rfl rfl) (c.bool (b := PySem.W.keepIn K (.ref (He.ma K (He.ga K "BucketMeter") "too_much"))) 4 7 rfl rfl)
  have b52 := F52.binds (ps := ["self", "moment", "cost"]) fun _ _ _ _ _ _ us hl => match us, hl with | [_, _, _], _ => rfl
  obtain ⟨d53, F53⟩ := Hd.fun_fact (f := fun K => He.ma K (He.ga K "BucketMeter") "room") (x := "room") (q := "BucketMeter.room") (st := s_BucketMeter_room) (c.fnc 53 rfl) (c.bool (b := Hd.codeB K (He.ma K (He.ga K "BucketMeter") "room") "BucketMeter.room") 4 10 rfl rfl) (c.bool (b := PySem.W.keepIn K (.ref (He.ma K (He.ga K "BucketMeter") "room"))) 4 11 rfl rfl)
  have b53 := F53.binds (ps := ["self", "moment", "group", "cost"]) fun _ _ _ _ _ _ us hl => match us, hl with | [_, _, _, _], _ => rfl
  obtain ⟨d54, F54⟩ := Hd.fun_fact (f := fun K => He.ma K (He.ga K "BucketMeter") "earliest") (x := "earliest") (q := "BucketMeter.earliest") (st := s_BucketMeter_earliest) (c.fnc 54 rfl) (c.bool (b := Hd.codeB K (He.ma K (He.ga K "BucketMeter") "earliest") "BucketMeter.earliest") 4 14 rfl rfl) (c.bool (b := PySem.W.keepIn K (.ref (He.ma K (He.ga K "BucketMeter") "earliest"))) 4 15 rfl rfl)
  have b54 := F54.binds (ps := ["self", "moment", "group", "cost"]) fun _ _ _ _ _ _ us hl => match us, hl with | [_, _, _, _], _ => rfl
  obtain ⟨d55, F55⟩ := Hd.fun_fact (f := fun K => He.ma K (He.ga K "BucketMeter") "let") (x := "let") (q := "BucketMeter.let") (st := s_BucketMeter_let) (c.fnc 55 rfl) (c.bool (b := Hd.codeB K (He.ma K (He.ga K "BucketMeter") "let") "BucketMeter.let") 4 18 rfl rfl) (c.bool (b := PySem.W.keepIn K (.ref (He.ma K (He.ga K "BucketMeter") "let"))) 4 19 rfl rfl)
  have b55 := F55.binds (ps := ["self", "moment", "group", "cost", "key"]) fun _ _ _ _ _ _ us hl => match us, hl with | [_, _, _, _, _], _ => rfl
  obtain ⟨d56, F56⟩ := Hd.fun_fact (f := fun K => He.ma K (He.ga K "GapMeter") "__init__") (x := "__init__") (q := "GapMeter.__init__") (st := s_GapMeter_init) (c.fnc 56 rfl) (c.bool (b := Hd.codeB K (He.ma K (He.ga K "GapMeter") "__init__") "GapMeter.__init__") 4 22 rfl rfl) (c.bool (b := PySem.W.keepIn K (.ref (He.ma K (He.ga K "GapMeter") "__init__"))) 4 23 rfl rfl)
  have b56 := F56.binds (ps := ["self", "limit"]) fun _ _ _ _ _ _ us hl => match us, hl with | [_, _], _ => rfl
  obtain ⟨d57, F57⟩ := Hd.fun_fact (f := fun K => He.ma K (He.ga K "GapMeter") "room") (x := "room") (q := "GapMeter.room") (st := s_GapMeter_room) (c.fnc 57 rfl) (c.bool (b := Hd.codeB K (He.ma K (He.ga K "GapMeter") "room") "GapMeter.room") 4 24 rfl rfl) (c.bool (b := PySem.W.keepIn K (.ref (He.ma K (He.ga K "GapMeter") "room"))) 4 25 rfl rfl)
  have b57 := F57.binds (ps := ["self", "moment", "group", "cost"]) fun _ _ _ _ _ _ us hl => match us, hl with | [_, _, _, _], _ => rfl
  obtain ⟨d58, F58⟩ := Hd.fun_fact (f := fun K => He.ma K (He.ga K "GapMeter") "earliest") (x := "earliest") (q := "GapMeter.earliest") (st := s_GapMeter_earliest) (c.fnc 58 rfl) (c.bool (b := Hd.codeB K (He.ma K (He.ga K "GapMeter") "earliest") "GapMeter.earliest") 4 28 rfl rfl) (c.bool (b := PySem.W.keepIn K (.ref (He.ma K (He.ga K "GapMeter") "earliest"))) 4 29 rfl rfl)
  have b58 := F58.binds (ps := ["self", "moment", "group", "cost"]) fun _ _ _ _ _ _ us hl => match us, hl with | [_, _, _, _], _ => rfl
  obtain ⟨d59, F59⟩ := Hd.fun_fact (f := fun K => He.ma K (He.ga K "GapMeter") "let") (x := "let") (q := "GapMeter.let") (st := s_GapMeter_let) (c.fnc 59 rfl) (c.bool (b := Hd.codeB K (He.ma K (He.ga K "GapMeter") "let") "GapMeter.let") 4 32 rfl rfl) (c.bool (b := PySem.W.keepIn K (.ref (He.ma K (He.ga K "GapMeter") "let"))) 4 33 rfl rfl)
  have b59 := F59.binds (ps := ["self", "moment", "group", "cost", "key"]) fun _ _ _ _ _ _ us hl => match us, hl with | [_, _, _, _, _], _ => rfl
  obtain ⟨d60, F60⟩ := Hd.fun_fact (f := fun K => He.ma K (He.ga K "HeldMeter") "__init__") (x := "__init__") (q := "HeldMeter.__init__") (st := s_HeldMeter_init) (c.fnc 60 rfl) (c.bool (b := Hd.codeB K (He.ma K (He.ga K "HeldMeter") "__init__") "HeldMeter.__init__") 4 36 rfl rfl) (c.bool (b := PySem.W.keepIn K (.ref (He.ma K (He.ga K "HeldMeter") "__init__"))) 4 37 rfl rfl)
  have b60 := F60.binds (ps := ["self", "limit"]) fun _ _ _ _ _ _ us hl => match us, hl with | [_, _], _ => rfl
  obtain ⟨d61, F61⟩ := Hd.fun_fact (f := fun K => He.ma K (He.ga K "HeldMeter") "room") (x := "room") (q := "HeldMeter.room") (st := s_HeldMeter_room) (c.fnc 61 rfl) (c.bool (b := Hd.codeB K (He.ma K (He.ga K "HeldMeter") "room") "HeldMeter.room") 4 38 rfl rfl) (c.bool (b := PySem.W.keepIn K (.ref (He.ma K (He.ga K "HeldMeter") "room"))) 4 39 rfl rfl)
  have b61 := F61.binds (ps := ["self", "moment", "group", "cost"]) fun _ _ _ _ _ _ us hl => match us, hl with | [_, _, _, _], _ => rfl
  obtain ⟨d62, F62⟩ := Hd.fun_fact (f := fun K => He.ma K (He.ga K "HeldMeter") "earliest") (x := "earliest") (q := "HeldMeter.earliest") (st := s_HeldMeter_earliest) (c.fnc 62 rfl) (c.bool (b := Hd.codeB K (He.ma K (He.ga K "HeldMeter") "earliest") "HeldMeter.earliest") 5 2 rfl rfl) (c.bool (b := PySem.W.keepIn K (.ref (He.ma K (He.ga K "HeldMeter") "earliest"))) 5 3 rfl rfl)
  have b62 := F62.binds (ps := ["self", "moment", "group", "cost"]) fun _ _ _ _ _ _ us hl => match us, hl with | [_, _, _, _], _ => rfl
  obtain ⟨d63, F63⟩ := Hd.fun_fact (f := fun K => He.ma K (He.ga K "HeldMeter") "let") (x := "let") (q := "HeldMeter.let") (st := s_HeldMeter_let) (c.fnc 63 rfl) (c.bool (b := Hd.codeB K (He.ma K (He.ga K "HeldMeter") "let") "HeldMeter.let") 5 6 rfl rfl) (c.bool (b := PySem.W.keepIn K (.ref (He.ma K (He.ga K "HeldMeter") "let"))) 5 7 rfl rfl)
  have b63 := F63.binds (ps := ["self", "moment", "group", "cost", "key"]) fun _ _ _ _ _ _ us hl => match us, hl with | [_, _, _, _, _], _ => rfl
  obtain ⟨d64, F64⟩ := Hd.fun_fact (f := fun K => He.ma K (He.ga K "PoolMeter") "__init__") (x := "__init__") (q := "PoolMeter.__init__") (st := s_PoolMeter_init) (c.fnc 64 rfl) (c.bool (b := Hd.codeB K (He.ma K (He.ga K "PoolMeter") "__init__") "PoolMeter.__init__") 5 10 rfl rfl) (c.bool (b := PySem.W.keepIn K (.ref (He.ma K (He.ga K "PoolMeter") "__init__"))) 5 11 rfl rfl)
  have b64 := F64.binds (ps := ["self", "limit"]) fun _ _ _ _ _ _ us hl => match us, hl with | [_, _], _ => rfl
  obtain ⟨d65, F65⟩ := Hd.fun_fact (f := fun K => He.ma K (He.ga K "PoolMeter") "borrowed") (x := "borrowed") (q := "PoolMeter.borrowed") (st := s_PoolMeter_borrowed) (c.fnc 65 rfl) (c.bool (b := Hd.codeB K (He.ma K (He.ga K "PoolMeter") "borrowed") "PoolMeter.borrowed") 5 12 rfl rfl) (c.bool (b := PySem.W.keepIn K (.ref (He.ma K (He.ga K "PoolMeter") "borrowed"))) 5 13 rfl rfl)
  have b65 := F65.binds (ps := ["self", "group", "more"]) fun _ _ _ _ _ _ us hl => match us, hl with | [_, _, _], _ => rfl
  obtain ⟨d66, F66⟩ := Hd.fun_fact (f := fun K => He.ma K (He.ga K "PoolMeter") "room") (x := "room") (q := "PoolMeter.room") (st := s_PoolMeter_room) (c.fnc 66 rfl) (c.bool (b := Hd.codeB K (He.ma K (He.ga K "PoolMeter") "room") "PoolMeter.room") 5 16 rfl rfl) (c.bool (b := PySem.W.keepIn K (.ref (He.ma K (He.ga K "PoolMeter") "room"))) 5 17 rfl rfl)
  have b66 := F66.binds (ps := ["self", "moment", "group", "cost"]) fun _ _ _ _ _ _ us hl => match us, hl with | [_, _, _, _], _ => rfl
  obtain ⟨d67, F67⟩ := Hd.fun_fact (f := fun K => He.ma K (He.ga K "PoolMeter") "earliest") (x := "earliest") (q := "PoolMeter.earliest") (st := s_PoolMeter_earliest) (c.fnc 67 rfl) (c.bool (b := Hd.codeB K (He.ma K (He.ga K "PoolMeter") "earliest") "PoolMeter.earliest") 5 20 rfl rfl) (c.bool (b := PySem.W.keepIn K (.ref (He.ma K (He.ga K "PoolMeter") "earliest"))) 5 21 rfl rfl)
  have b67 := F67.binds (ps := ["self", "moment", "group", "cost"]) fun _ _ _ _ _ _ us hl => match us, hl with | [_, _, _, _], _ => rfl
  obtain ⟨d68, F68⟩ := Hd.fun_fact (f := fun K => He.ma K (He.ga K "PoolMeter") "let") (x := "let") (q := "PoolMeter.let") (st := s_PoolMeter_let) (c.fnc 68 rfl) (c.bool (b := Hd.codeB K (He.ma K (He.ga K "PoolMeter") "let") "PoolMeter.let") 5 24 rfl rfl) (c.bool (b := PySem.W.keepIn K (.ref (He.ma K (He.ga K "PoolMeter") "let"))) 5 25 rfl rfl)
  have b68 := F68.binds (ps := ["self", "moment", "group", "cost", "key"]) fun _ _ _ _ _ _ us hl => match us, hl with | [_, _, _, _, _], _ => rfl
  obtain ⟨d69, F69⟩ := Hd.fun_fact (f := fun K => He.ma K (He.ga K "Answer") "__init__") (x := "__init__") (q := "Answer.__init__") (st := s_Answer_init) (c.fnc 69 rfl) (c.bool (b := Hd.codeB K (He.ma K (He.ga K "Answer") "__init__") "Answer.__init__") 5 28 rfl rfl) (c.bool (b := PySem.W.keepIn K (.ref (He.ma K (He.ga K "Answer") "__init__"))) 5 29 rfl rfl)
  have b69 := F69.binds (ps := ["self", "key", "moment", "lacking", "earliest"]) fun _ _ _ _ _ _ us hl => match us, hl with | [_, _, _, _, _], _ => rfl
  obtain ⟨d70, F70⟩ := Hd.fun_fact (f := fun K => He.ma K (He.ga K "Answer") "parts") (x := "parts") (q := "Answer.parts") (st := s_Answer_parts) (c.fnc 70 rfl) (c.bool (b := Hd.codeB K (He.ma K (He.ga K "Answer") "parts") "Answer.parts") 5 30 rfl rfl) (c.bool (b := PySem.W.keepIn K (.ref (He.ma K (He.ga K "Answer") "parts"))) 5 31 rfl rfl)
  have b70 := F70.binds (ps := ["self"]) fun _ _ _ _ _ _ us hl => match us, hl with | [_], _ => rfl
  obtain ⟨d71, F71⟩ := Hd.fun_fact (f := fun K => He.ma K (He.ga K "Keeper") "__init__") (x := "__init__") (q := "Keeper.__init__") (st := s_Keeper_init) (c.fnc 71 rfl) (c.bool (b := Hd.codeB K (He.ma K (He.ga K "Keeper") "__init__") "Keeper.__init__") 5 34 rfl rfl) (c.bool (b := PySem.W.keepIn K (.ref (He.ma K (He.ga K "Keeper") "__init__"))) 5 35 rfl rfl)
  have b71 := F71.binds (ps := ["self", "book"]) fun _ _ _ _ _ _ us hl => match us, hl with | [_, _], _ => rfl
  obtain ⟨d72, F72⟩ := Hd.fun_fact (f := fun K => He.ma K (He.ga K "Keeper") "_check_next") (x := "_check_next") (q := "Keeper._check_next") (st := s_Keeper__check_next) (c.fnc 72 rfl) (c.bool (b := Hd.codeB K (He.ma K (He.ga K "Keeper") "_check_next") "Keeper._check_next") 5 36 rfl rfl) (c.bool (b := PySem.W.keepIn K (.ref (He.ma K (He.ga K "Keeper") "_check_next"))) 5 37 rfl rfl)
  have b72 := F72.binds (ps := ["self", "moment"]) fun _ _ _ _ _ _ us hl => match us, hl with | [_, _], _ => rfl
  obtain ⟨d73, F73⟩ := Hd.fun_fact (f := fun K => He.ma K (He.ga K "Keeper") "_check_known") (x := "_check_known") (q := "Keeper._check_known") (st := s_Keeper__check_known) (c.fnc 73 rfl) (c.bool (b := Hd.codeB K (He.ma K (He.ga K "Keeper") "_check_known") "Keeper._check_known") 6 0 rfl rfl) (c.bool (b := PySem.W.keepIn K (.ref (He.ma K (He.ga K "Keeper") "_check_known"))) 6 1 rfl rfl)
  have b73 := F73.binds (ps := ["self", "key"]) fun _ _ _ _ _ _ us hl => match us, hl with | [_, _], _ => rfl
  obtain ⟨d74, F74⟩ := Hd.fun_fact (f := fun K => He.ma K (He.ga K "Keeper") "_let") (x := "_let") (q := "Keeper._let") (st := s_Keeper__let) (c.fnc 74 rfl) (c.bool (b := Hd.codeB K (He.ma K (He.ga K "Keeper") "_let") "Keeper._let") 6 4 rfl rfl) (c.bool (b := PySem.W.keepIn K (.ref (He.ma K (He.ga K "Keeper") "_let"))) 6 5 rfl rfl)
  have b74 := F74.binds (ps := ["self", "key", "group", "cost", "moment"]) fun _ _ _ _ _ _ us hl => match us, hl with | [_, _, _, _, _], _ => rfl
  obtain ⟨d75, F75⟩ := Hd.fun_fact (f := fun K => He.ma K (He.ga K "Keeper") "_earliest") (x := "_earliest") (q := "Keeper._earliest") (st := s_Keeper__earliest) (c.fnc 75 rfl) (c.bool (b := Hd.codeB K (He.ma K (He.ga K "Keeper") "_earliest") "Keeper._earliest") 6 8 rfl rfl) (c.bool (b := PySem.W.keepIn K (.ref (He.ma K (He.ga K "Keeper") "_earliest"))) 6 9 rfl rfl)
  have b75 := F75.binds (ps := ["self", "group", "cost", "moment"]) fun _ _ _ _ _ _ us hl => match us, hl with | [_, _, _, _], _ => rfl
  obtain ⟨d76, F76⟩ := Hd.fun_fact (f := fun K => He.ma K (He.ga K "Keeper") "ask") (x := "ask") (q := "Keeper.ask") (st := s_Keeper_ask) (c.fnc 76 rfl) (c.bool (b := Hd.codeB K (He.ma K (He.ga K "Keeper") "ask") "Keeper.ask") 6 12 rfl rfl) (c.bool (b := PySem.W.keepIn K (.ref (He.ma K (He.ga K "Keeper") "ask"))) 6 13 rfl rfl)
  have b76 := F76.binds (ps := ["self", "request", "moment"]) fun _ _ _ _ _ _ us hl => match us, hl with | [_, _, _], _ => rfl
  obtain ⟨d77, F77⟩ := Hd.fun_fact (f := fun K => He.ma K (He.ga K "Keeper") "knows") (x := "knows") (q := "Keeper.knows") (st := s_Keeper_knows) (c.fnc 77 rfl) (c.bool (b := Hd.codeB K (He.ma K (He.ga K "Keeper") "knows") "Keeper.knows") 6 16 rfl rfl) (c.bool (b := PySem.W.keepIn K (.ref (He.ma K (He.ga K "Keeper") "knows"))) 6 17 rfl rfl)
  have b77 := F77.binds (ps := ["self", "key"]) fun _ _ _ _ _ _ us hl => match us, hl with | [_, _], _ => rfl
  obtain ⟨d78, F78⟩ := Hd.fun_fact (f := fun K => He.ma K (He.ga K "Keeper") "answer_of") (x := "answer_of") (q := "Keeper.answer_of") (st := s_Keeper_answer_of) (c.fnc 78 rfl) (c.bool (b := Hd.codeB K (He.ma K (He.ga K "Keeper") "answer_of") "Keeper.answer_of") 6 20 rfl rfl) (c.bool (b := PySem.W.keepIn K (.ref (He.ma K (He.ga K "Keeper") "answer_of"))) 6 21 rfl rfl)
  have b78 := F78.binds (ps := ["self", "key"]) fun _ _ _ _ _ _ us hl => match us, hl with | [_, _], _ => rfl
  have e0 : PySem.LwX.ErrTxt file K mg "KeyKnown" "key" (He.ga K "KeyKnown") (He.ma K (He.ga K "KeyKnown") "__init__") := Hd.errOf ⟨by decide +kernel, by decide +kernel, by decide +kernel, by decide +kernel, by decide +kernel, fun _ _ _ _ _ _ _ _ _ _ _ _ => rfl⟩ (PySem.W.mg_of X G (c.bit (p := PySem.W.nsIn K mainGlobals "KeyKnown" = some (some (.ref (He.ga K "KeyKnown")))) 7 10 rfl rfl)) (c.bool (b := Hd.clsB K (He.ga K "KeyKnown") "KeyKnown") 7 11 rfl rfl) (c.bit (p := PySem.W.findIn K (.ref (He.ga K "KeyKnown")) "__setattr__" = some (some (.builtin "object.__setattr__"))) 7 12 rfl rfl) (c.bit (p := PySem.W.findIn K (.ref (He.ga K "KeyKnown")) "__getattribute__" = some (some (.builtin "BaseException.__getattribute__"))) 7 7 rfl rfl) (c.bit (p := PySem.W.findIn K (.ref (He.ga K "KeyKnown")) "__getattr__" = some none) 7 8 rfl rfl) (c.bit (p := PySem.W.findIn K (.ref (He.ga K "KeyKnown")) "key" = some none) 7 13 rfl rfl) (c.bit (p := PySem.W.findIn K (.ref (He.ga K "KeyKnown")) "__init__" = some (some (.ref (He.ma K (He.ga K "KeyKnown") "__init__")))) 7 14 rfl rfl) (c.bit (p := PySem.W.typeIn K (.ref (He.ma K (He.ga K "KeyKnown") "__init__")) = some (.type "function")) 7 15 rfl rfl) (c.bool (b := PySem.W.keepIn K (.ref (He.ga K "KeyKnown"))) 7 16 rfl rfl) (c.bit (p := PySem.W.subIn K (.ref (He.ga K "KeyKnown")) (.type "BaseException") = some true) 7 3 rfl rfl) (c.bit (p := PySem.W.subIn K (.ref (He.ga K "KeyKnown")) (.type "ValueError") = some true) 7 17 rfl rfl) (c.bit (p := PySem.W.mroIn K (He.ga K "KeyKnown") (.ref (He.ga K "KeyKnown")) = some true) 7 18 rfl rfl) (c.bit (p := PySem.W.typeIn K (.ref (He.ga K "KeyKnown")) = some (.type "type")) 7 5 rfl rfl) (c.bool (b := PySem.W.hasDictIn K (He.ga K "KeyKnown")) 7 9 rfl rfl) (c.bool (b := PySem.W.isClsIn K (He.ga K "KeyKnown")) 7 4 rfl rfl) (c.bit (p := PySem.W.subIn K (.ref (He.ga K "KeyKnown")) (.ref (He.ga K "KeyKnown")) = some true) 7 6 rfl rfl) (c.bit (p := PySem.W.ks_superIn K (He.ga K "KeyKnown") (He.ga K "KeyKnown") "__init__" = some (some (.builtin "ValueError.__init__"))) 7 19 rfl rfl) (c.bit (p := PySem.W.nsIn K cStatics "thirdparty.any" = some none) 7 20 rfl rfl) (PySem.W.mg_none_of X G (c.bit (p := PySem.W.nsIn K mainGlobals "super" = some none) 7 21 rfl rfl)) (Hd.err_fn (c.fnc 79 rfl) (c.bool (b := Hd.errB K (He.ma K (He.ga K "KeyKnown") "__init__") "KeyKnown.__init__" file (He.ga K "KeyKnown")) 7 22 rfl rfl) rfl)
  have e1 : PySem.LwX.ErrTxt file K mg "UnknownKey" "key" (He.ga K "UnknownKey") (He.ma K (He.ga K "UnknownKey") "__init__") := Hd.errOf ⟨by decide +kernel, by decide +kernel, by decide +kernel, by decide +kernel, by decide +kernel, fun _ _ _ _ _ _ _ _ _ _ _ _ => rfl⟩ (PySem.W.mg_of X G (c.bit (p := PySem.W.nsIn K mainGlobals "UnknownKey" = some (some (.ref (He.ga K "UnknownKey")))) 7 34 rfl rfl)) (c.bool (b := Hd.clsB K (He.ga K "UnknownKey") "UnknownKey") 7 35 rfl rfl) (c.bit (p := PySem.W.findIn K (.ref (He.ga K "UnknownKey")) "__setattr__" = some (some (.builtin "object.__setattr__"))) 7 36 rfl rfl) (c.bit (p := PySem.W.findIn K (.ref (He.ga K "UnknownKey")) "__getattribute__" = some (some (.builtin "BaseException.__getattribute__"))) 7 31 rfl rfl) (c.bit (p := PySem.W.findIn K (.ref (He.ga K "UnknownKey")) "__getattr__" = some none) 7 32 rfl rfl) (c.bit (p := PySem.W.findIn K (.ref (He.ga K "UnknownKey")) "key" = some none) 7 37 rfl rfl) (c.bit (p := PySem.W.findIn K (.ref (He.ga K "UnknownKey")) "__init__" = some (some (.ref (He.ma K (He.ga K "UnknownKey") "__init__")))) 7 38 rfl rfl) (c.bit (p := PySem.W.typeIn K (.ref (He.ma K (He.ga K "UnknownKey") "__init__")) = some (.type "function")) 7 39 rfl rfl) (c.bool (b := PySem.W.keepIn K (.ref (He.ga K "UnknownKey"))) 8 0 rfl rfl) (c.bit (p := PySem.W.subIn K (.ref (He.ga K "UnknownKey")) (.type "BaseException") = some true) 7 27 rfl rfl) (c.bit (p := PySem.W.subIn K (.ref (He.ga K "UnknownKey")) (.type "ValueError") = some true) 8 1 rfl rfl) (c.bit (p := PySem.W.mroIn K (He.ga K "UnknownKey") (.ref (He.ga K "UnknownKey")) = some true) 8 2 rfl rfl) (c.bit (p := PySem.W.typeIn K (.ref (He.ga K "UnknownKey")) = some (.type "type")) 7 29 rfl rfl) (c.bool (b := PySem.W.hasDictIn K (He.ga K "UnknownKey")) 7 33 rfl rfl) (c.bool (b := PySem.W.isClsIn K (He.ga K "UnknownKey")) 7 28 rfl rfl) (c.bit (p := PySem.W.subIn K (.ref (He.ga K "UnknownKey")) (.ref (He.ga K "UnknownKey")) = some true) 7 30 rfl rfl) (c.bit (p := PySem.W.ks_superIn K (He.ga K "UnknownKey") (He.ga K "UnknownKey") "__init__" = some (some (.builtin "ValueError.__init__"))) 8 3 rfl rfl) (c.bit (p := PySem.W.nsIn K cStatics "thirdparty.any" = some none) 7 20 rfl rfl) (PySem.W.mg_none_of X G (c.bit (p := PySem.W.nsIn K mainGlobals "super" = some none) 7 21 rfl rfl)) (Hd.err_fn (c.fnc 80 rfl) (c.bool (b := Hd.errB K (He.ma K (He.ga K "UnknownKey") "__init__") "UnknownKey.__init__" file (He.ga K "UnknownKey")) 8 4 rfl rfl) rfl)
  have e2 : PySem.LwX.ErrTxt file K mg "EarlierMoment" "moment" (He.ga K "EarlierMoment") (He.ma K (He.ga K "EarlierMoment") "__init__") := Hd.errOf ⟨by decide +kernel, by decide +kernel, by decide +kernel, by decide +kernel, by decide +kernel, fun _ _ _ _ _ _ _ _ _ _ _ _ => rfl⟩ (PySem.W.mg_of X G (c.bit (p := PySem.W.nsIn K mainGlobals "EarlierMoment" = some (some (.ref (He.ga K "EarlierMoment")))) 8 14 rfl rfl)) (c.bool (b := Hd.clsB K (He.ga K "EarlierMoment") "EarlierMoment") 8 15 rfl rfl) (c.bit (p := PySem.W.findIn K (.ref (He.ga K "EarlierMoment")) "__setattr__" = some (some (.builtin "object.__setattr__"))) 8 16 rfl rfl) (c.bit (p := PySem.W.findIn K (.ref (He.ga K "EarlierMoment")) "__getattribute__" = some (some (.builtin "BaseException.__getattribute__"))) 8 11 rfl rfl) (c.bit (p := PySem.W.findIn K (.ref (He.ga K "EarlierMoment")) "__getattr__" = some none) 8 12 rfl rfl) (c.bit (p := PySem.W.findIn K (.ref (He.ga K "EarlierMoment")) "moment" = some none) 8 17 rfl rfl) (c.bit (p := PySem.W.findIn K (.ref (He.ga K "EarlierMoment")) "__init__" = some (some (.ref (He.ma K (He.ga K "EarlierMoment") "__init__")))) 8 18 rfl rfl) (c.bit (p := PySem.W.typeIn K (.ref (He.ma K (He.ga K "EarlierMoment") "__init__")) = some (.type "function")) 8 19 rfl rfl) (c.bool (b := PySem.W.keepIn K (.ref (He.ga K "EarlierMoment"))) 8 20 rfl rfl) (c.bit (p := PySem.W.subIn K (.ref (He.ga K "EarlierMoment")) (.type "BaseException") = some true) 8 7 rfl rfl) (c.bit (p := PySem.W.subIn K (.ref (He.ga K "EarlierMoment")) (.type "ValueError") = some true) 8 21 rfl rfl) (c.bit (p := PySem.W.mroIn K (He.ga K "EarlierMoment") (.ref (He.ga K "EarlierMoment")) = some true) 8 22 rfl rfl) (c.bit (p := PySem.W.typeIn K (.ref (He.ga K "EarlierMoment")) = some (.type "type")) 8 9 rfl rfl) (c.bool (b := PySem.W.hasDictIn K (He.ga K "EarlierMoment")) 8 13 rfl rfl) (c.bool (b := PySem.W.isClsIn K (He.ga K "EarlierMoment")) 8 8 rfl rfl) (c.bit (p := PySem.W.subIn K (.ref (He.ga K "EarlierMoment")) (.ref (He.ga K "EarlierMoment")) = some true) 8 10 rfl rfl) (c.bit (p := PySem.W.ks_superIn K (He.ga K "EarlierMoment") (He.ga K "EarlierMoment") "__init__" = some (some (.builtin "ValueError.__init__"))) 8 23 rfl rfl) (c.bit (p := PySem.W.nsIn K cStatics "thirdparty.any" = some none) 7 20 rfl rfl) (PySem.W.mg_none_of X G (c.bit (p := PySem.W.nsIn K mainGlobals "super" = some none) 7 21 rfl rfl)) (Hd.err_fn (c.fnc 81 rfl) (c.bool (b := Hd.errB K (He.ma K (He.ga K "EarlierMoment") "__init__") "EarlierMoment.__init__" file (He.ga K "EarlierMoment")) 8 24 rfl rfl) rfl)
  have bt := Hd.fun_to (y := "_law_script") F37 fun _ _ _ _ _ _ s v => .of_eq rfl
  exact ⟨⟨He.ga K "SIZES", He.ma K (He.ga K "Book") "limits", He.ga K "is_name", He.ga K "is_key", He.ga K "check_request", He.ga K "check_moment", He.ga K "ascends", He.ga K "check_names", He.ga K "are_shares", He.ga K "has_form", He.ga K "check_pool", He.ga K "check_numbers", He.ga K "check_limit", He.ga K "looks_at", He.ga K "first_of", He.ga K "common_of", He.ga K "share_for", He.ga K "meter_for", He.ga K "_law_row", He.ga K "_law_numbers", He.ga K "_law_is_integer", He.ga K "_law_names", He.ga K "_law_keys", He.ga K "_law_shares", He.ga K "_law_limit", He.ga K "_law_limits", He.ga K "_law_group_names", He.ga K "_law_cost", He.ga K "_law_step", He.ga K "_law_start", He.ga K "_law_after", He.ga K "_law_looks", He.ga K "_law_pool_room", He.ga K "_law_room", He.ga K "_law_lacking", He.ga K "_law_is_never", He.ga K "_law_is_earliest", He.ga K "_law_is_answer", He.ga K "_law_is_unknown", He.ga K "law", He.ma K (He.ga K "Book") "__init__", Hd.prF K (He.ga K "Book") "limits", He.ma K (He.ga K "WindowMeter") "__init__", He.ma K (He.ga K "WindowMeter") "sums_since", He.ma K (He.ga K "WindowMeter") "room", He.ma K (He.ga K "WindowMeter") "earliest", He.ma K (He.ga K "WindowMeter") "let", He.ma K (He.ga K "SpanMeter") "__init__", He.ma K (He.ga K "SpanMeter") "used_in", He.ma K (He.ga K "SpanMeter") "room", He.ma K (He.ga K "SpanMeter") "earliest", He.ma K (He.ga K "SpanMeter") "let", He.ma K (He.ga K "BucketMeter") "__init__", He.ma K (He.ga K "BucketMeter") "missing_at", He.ma K (He.ga K "BucketMeter") "too_much", He.ma K (He.ga K "BucketMeter") "room", He.ma K (He.ga K "BucketMeter") "earliest", He.ma K (He.ga K "BucketMeter") "let", He.ma K (He.ga K "GapMeter") "__init__", He.ma K (He.ga K "GapMeter") "room", He.ma K (He.ga K "GapMeter") "earliest", He.ma K (He.ga K "GapMeter") "let", He.ma K (He.ga K "HeldMeter") "__init__", He.ma K (He.ga K "HeldMeter") "room", He.ma K (He.ga K "HeldMeter") "earliest", He.ma K (He.ga K "HeldMeter") "let", He.ma K (He.ga K "PoolMeter") "__init__", He.ma K (He.ga K "PoolMeter") "borrowed", He.ma K (He.ga K "PoolMeter") "room", He.ma K (He.ga K "PoolMeter") "earliest", He.ma K (He.ga K "PoolMeter") "let", He.ma K (He.ga K "Answer") "__init__", He.ma K (He.ga K "Answer") "parts", He.ma K (He.ga K "Keeper") "__init__", He.ma K (He.ga K "Keeper") "_check_next", He.ma K (He.ga K "Keeper") "_check_known", He.ma K (He.ga K "Keeper") "_let", He.ma K (He.ga K "Keeper") "_earliest", He.ma K (He.ga K "Keeper") "ask", He.ma K (He.ga K "Keeper") "knows", He.ma K (He.ga K "Keeper") "answer_of", He.ga K "KeyKnown", He.ma K (He.ga K "KeyKnown") "__init__", He.ga K "UnknownKey", He.ma K (He.ga K "UnknownKey") "__init__", He.ga K "EarlierMoment", He.ma K (He.ga K "EarlierMoment") "__init__", He.ga K "InvalidName", He.ga K "InvalidRequest", He.ga K "InvalidLimit", He.ga K "InvalidBook", He.ga K "TooLarge", He.ga K "Book", He.ga K "WindowMeter", He.ga K "SpanMeter", He.ga K "BucketMeter", He.ga K "GapMeter", He.ga K "HeldMeter", He.ga K "PoolMeter", He.ga K "Answer", He.ga K "Keeper", d0, d1, d2, d3, d4, d5, d6, d7, d8, d9, d10, d11, d12, d13, d14, d15, d16, d17, d18, d19, d20, d21, d22, d23, d24, d25, d26, d27, d28, d29, d30, d31, d32, d33, d34, d35, d36, d37, d38, d39, d40, d41, d42, d43, d44, d45, d46, d47, d48, d49, d50, d51, d52, d53, d54, d55, d56, d57, d58, d59, d60, d61, d62, d63, d64, d65, d66, d67, d68, d69, d70, d71, d72, d73, d74, d75, d76, d77, d78⟩, rfl, bt, ⟨(PySem.W.mg_of X G (c.bit (p := PySem.W.nsIn K mainGlobals "SIZES" = some (some (.ref (He.ga K "SIZES")))) 0 1 rfl rfl)),
    wd_SIZES,
    F0,
    (PySem.W.mg_of X G (c.bit (p := PySem.W.nsIn K mainGlobals "is_name" = some (some (.ref (He.ga K "is_name")))) 0 4 rfl rfl)),
    b0,
    F1,
    (PySem.W.mg_of X G (c.bit (p := PySem.W.nsIn K mainGlobals "is_key" = some (some (.ref (He.ga K "is_key")))) 0 7 rfl rfl)),
    b1,
    F2,
    (PySem.W.mg_of X G (c.bit (p := PySem.W.nsIn K mainGlobals "check_request" = some (some (.ref (He.ga K "check_request")))) 0 10 rfl rfl)),
    b2,
    F3,
    (PySem.W.mg_of X G (c.bit (p := PySem.W.nsIn K mainGlobals "check_moment" = some (some (.ref (He.ga K "check_moment")))) 0 13 rfl rfl)),
    b3,
    F4,
    (PySem.W.mg_of X G (c.bit (p := PySem.W.nsIn K mainGlobals "ascends" = some (some (.ref (He.ga K "ascends")))) 0 16 rfl rfl)),
    b4,
    F5,
    (PySem.W.mg_of X G (c.bit (p := PySem.W.nsIn K mainGlobals "check_names" = some (some (.ref (He.ga K "check_names")))) 0 19 rfl rfl)),
    b5,
    F6,
    (PySem.W.mg_of X G (c.bit (p := PySem.W.nsIn K mainGlobals "are_shares" = some (some (.ref (He.ga K "are_shares")))) 0 22 rfl rfl)),
    b6,
    F7,
    (PySem.W.mg_of X G (c.bit (p := PySem.W.nsIn K mainGlobals "has_form" = some (some (.ref (He.ga K "has_form")))) 0 25 rfl rfl)),
    b7,
    F8,
    (PySem.W.mg_of X G (c.bit (p := PySem.W.nsIn K mainGlobals "check_pool" = some (some (.ref (He.ga K "check_pool")))) 0 28 rfl rfl)),
    b8,
    F9,
    (PySem.W.mg_of X G (c.bit (p := PySem.W.nsIn K mainGlobals "check_numbers" = some (some (.ref (He.ga K "check_numbers")))) 0 31 rfl rfl)),
    b9,
    F10,
    (PySem.W.mg_of X G (c.bit (p := PySem.W.nsIn K mainGlobals "check_limit" = some (some (.ref (He.ga K "check_limit")))) 0 34 rfl rfl)),
    b10,
    F11,
    (PySem.W.mg_of X G (c.bit (p := PySem.W.nsIn K mainGlobals "looks_at" = some (some (.ref (He.ga K "looks_at")))) 0 37 rfl rfl)),
    b11,
    F12,
    (PySem.W.mg_of X G (c.bit (p := PySem.W.nsIn K mainGlobals "first_of" = some (some (.ref (He.ga K "first_of")))) 1 0 rfl rfl)),
    b12,
    F13,
    (PySem.W.mg_of X G (c.bit (p := PySem.W.nsIn K mainGlobals "common_of" = some (some (.ref (He.ga K "common_of")))) 1 3 rfl rfl)),
    b13,
    F14,
    (PySem.W.mg_of X G (c.bit (p := PySem.W.nsIn K mainGlobals "share_for" = some (some (.ref (He.ga K "share_for")))) 1 6 rfl rfl)),
    b14,
    F15,
    (PySem.W.mg_of X G (c.bit (p := PySem.W.nsIn K mainGlobals "meter_for" = some (some (.ref (He.ga K "meter_for")))) 1 9 rfl rfl)),
    b15,
    F16,
    (PySem.W.mg_of X G (c.bit (p := PySem.W.nsIn K mainGlobals "_law_row" = some (some (.ref (He.ga K "_law_row")))) 1 12 rfl rfl)),
    b16,
    F17,
    (PySem.W.mg_of X G (c.bit (p := PySem.W.nsIn K mainGlobals "_law_numbers" = some (some (.ref (He.ga K "_law_numbers")))) 1 15 rfl rfl)),
    b17,
    F18,
    (PySem.W.mg_of X G (c.bit (p := PySem.W.nsIn K mainGlobals "_law_is_integer" = some (some (.ref (He.ga K "_law_is_integer")))) 1 18 rfl rfl)),
    b18,
    F19,
    (PySem.W.mg_of X G (c.bit (p := PySem.W.nsIn K mainGlobals "_law_names" = some (some (.ref (He.ga K "_law_names")))) 1 21 rfl rfl)),
    b19,
    F20,
    (PySem.W.mg_of X G (c.bit (p := PySem.W.nsIn K mainGlobals "_law_keys" = some (some (.ref (He.ga K "_law_keys")))) 1 24 rfl rfl)),
    b20,
    F21,
    (PySem.W.mg_of X G (c.bit (p := PySem.W.nsIn K mainGlobals "_law_shares" = some (some (.ref (He.ga K "_law_shares")))) 1 27 rfl rfl)),
    b21,
    F22,
    (PySem.W.mg_of X G (c.bit (p := PySem.W.nsIn K mainGlobals "_law_limit" = some (some (.ref (He.ga K "_law_limit")))) 1 30 rfl rfl)),
    b22,
    F23,
    (PySem.W.mg_of X G (c.bit (p := PySem.W.nsIn K mainGlobals "_law_limits" = some (some (.ref (He.ga K "_law_limits")))) 1 33 rfl rfl)),
    b23,
    F24,
    (PySem.W.mg_of X G (c.bit (p := PySem.W.nsIn K mainGlobals "_law_group_names" = some (some (.ref (He.ga K "_law_group_names")))) 1 36 rfl rfl)),
    b24,
    F25,
    (PySem.W.mg_of X G (c.bit (p := PySem.W.nsIn K mainGlobals "_law_cost" = some (some (.ref (He.ga K "_law_cost")))) 1 39 rfl rfl)),
    b25,
    F26,
    (PySem.W.mg_of X G (c.bit (p := PySem.W.nsIn K mainGlobals "_law_step" = some (some (.ref (He.ga K "_law_step")))) 2 2 rfl rfl)),
    b26,
    F27,
    (PySem.W.mg_of X G (c.bit (p := PySem.W.nsIn K mainGlobals "_law_start" = some (some (.ref (He.ga K "_law_start")))) 2 5 rfl rfl)),
    b27,
    F28,
    (PySem.W.mg_of X G (c.bit (p := PySem.W.nsIn K mainGlobals "_law_after" = some (some (.ref (He.ga K "_law_after")))) 2 8 rfl rfl)),
    b28,
    F29,
    (PySem.W.mg_of X G (c.bit (p := PySem.W.nsIn K mainGlobals "_law_looks" = some (some (.ref (He.ga K "_law_looks")))) 2 11 rfl rfl)),
    b29,
    F30,
    (PySem.W.mg_of X G (c.bit (p := PySem.W.nsIn K mainGlobals "_law_pool_room" = some (some (.ref (He.ga K "_law_pool_room")))) 2 14 rfl rfl)),
    b30,
    F31,
    (PySem.W.mg_of X G (c.bit (p := PySem.W.nsIn K mainGlobals "_law_room" = some (some (.ref (He.ga K "_law_room")))) 2 17 rfl rfl)),
    b31,
    F32,
    (PySem.W.mg_of X G (c.bit (p := PySem.W.nsIn K mainGlobals "_law_lacking" = some (some (.ref (He.ga K "_law_lacking")))) 2 20 rfl rfl)),
    b32,
    F33,
    (PySem.W.mg_of X G (c.bit (p := PySem.W.nsIn K mainGlobals "_law_is_never" = some (some (.ref (He.ga K "_law_is_never")))) 2 23 rfl rfl)),
    b33,
    F34,
    (PySem.W.mg_of X G (c.bit (p := PySem.W.nsIn K mainGlobals "_law_is_earliest" = some (some (.ref (He.ga K "_law_is_earliest")))) 2 26 rfl rfl)),
    b34,
    F35,
    (PySem.W.mg_of X G (c.bit (p := PySem.W.nsIn K mainGlobals "_law_is_answer" = some (some (.ref (He.ga K "_law_is_answer")))) 2 29 rfl rfl)),
    b35,
    F36,
    (PySem.W.mg_of X G (c.bit (p := PySem.W.nsIn K mainGlobals "_law_is_unknown" = some (some (.ref (He.ga K "_law_is_unknown")))) 2 32 rfl rfl)),
    b36,
    F37,
    (PySem.W.mg_of X G (c.bit (p := PySem.W.nsIn K mainGlobals "law" = some (some (.ref (He.ga K "law")))) 2 35 rfl rfl)),
    b37,
    F38,
    b38,
    F39,
    ⟨(c.bit (p := PySem.W.findIn K (.ref (He.ga K "Book")) "limits" = some (some (.ref (He.ma K (He.ga K "Book") "limits")))) 3 0 rfl rfl), (c.bit (p := PySem.W.specialIn K (.ref (He.ma K (He.ga K "Book") "limits")) "__get__" = some (some (.builtin "property.__get__"))) 3 1 rfl rfl), (c.bit (p := PySem.W.takesIn K (.ref (He.ma K (He.ga K "Book") "limits")) = some true) 3 2 rfl rfl), Hd.prF_ok (c.bool (b := (match PySem.W.recIn K (He.ma K (He.ga K "Book") "limits") "property" with | some (.ref _ :: _) => true | _ => false)) 3 3 rfl rfl)⟩,
    b39,
    F40,
    b40,
    F41,
    ⟨(c.bit (p := PySem.W.findIn K (.ref (He.ga K "WindowMeter")) "sums_since" = some (some (.ref (He.ma K (He.ga K "WindowMeter") "sums_since")))) 3 8 rfl rfl), (c.bool (b := PySem.W.isFn K (.ref (He.ma K (He.ga K "WindowMeter") "sums_since"))) 3 9 rfl rfl), (c.bool (b := PySem.W.keepIn K (.ref (He.ma K (He.ga K "WindowMeter") "sums_since"))) 3 7 rfl rfl)⟩,
    b41,
    F42,
    ⟨(c.bit (p := PySem.W.findIn K (.ref (He.ga K "WindowMeter")) "room" = some (some (.ref (He.ma K (He.ga K "WindowMeter") "room")))) 3 12 rfl rfl), (c.bool (b := PySem.W.isFn K (.ref (He.ma K (He.ga K "WindowMeter") "room"))) 3 13 rfl rfl), (c.bool (b := PySem.W.keepIn K (.ref (He.ma K (He.ga K "WindowMeter") "room"))) 3 11 rfl rfl)⟩,
    b42,
    F43,
    ⟨(c.bit (p := PySem.W.findIn K (.ref (He.ga K "WindowMeter")) "earliest" = some (some (.ref (He.ma K (He.ga K "WindowMeter") "earliest")))) 3 16 rfl rfl), (c.bool (b := PySem.W.isFn K (.ref (He.ma K (He.ga K "WindowMeter") "earliest"))) 3 17 rfl rfl), (c.bool (b := PySem.W.keepIn K (.ref (He.ma K (He.ga K "WindowMeter") "earliest"))) 3 15 rfl rfl)⟩,
    b43,
    F44,
    ⟨(c.bit (p := PySem.W.findIn K (.ref (He.ga K "WindowMeter")) "let" = some (some (.ref (He.ma K (He.ga K "WindowMeter") "let")))) 3 20 rfl rfl), (c.bool (b := PySem.W.isFn K (.ref (He.ma K (He.ga K "WindowMeter") "let"))) 3 21 rfl rfl), (c.bool (b := PySem.W.keepIn K (.ref (He.ma K (He.ga K "WindowMeter") "let"))) 3 19 rfl rfl)⟩,
    b44,
    F45,
    b45,
    F46,
    ⟨(c.bit (p := PySem.W.findIn K (.ref (He.ga K "SpanMeter")) "used_in" = some (some (.ref (He.ma K (He.ga K "SpanMeter") "used_in")))) 3 26 rfl rfl), (c.bool (b := PySem.W.isFn K (.ref (He.ma K (He.ga K "SpanMeter") "used_in"))) 3 27 rfl rfl), (c.bool (b := PySem.W.keepIn K (.ref (He.ma K (He.ga K "SpanMeter") "used_in"))) 3 25 rfl rfl)⟩,
    b46,
    F47,
    ⟨(c.bit (p := PySem.W.findIn K (.ref (He.ga K "SpanMeter")) "room" = some (some (.ref (He.ma K (He.ga K "SpanMeter") "room")))) 3 30 rfl rfl), (c.bool (b := PySem.W.isFn K (.ref (He.ma K (He.ga K "SpanMeter") "room"))) 3 31 rfl rfl), (c.bool (b := PySem.W.keepIn K (.ref (He.ma K (He.ga K "SpanMeter") "room"))) 3 29 rfl rfl)⟩,
    b47,
    F48,
    ⟨(c.bit (p := PySem.W.findIn K (.ref (He.ga K "SpanMeter")) "earliest" = some (some (.ref (He.ma K (He.ga K "SpanMeter") "earliest")))) 3 34 rfl rfl), (c.bool (b := PySem.W.isFn K (.ref (He.ma K (He.ga K "SpanMeter") "earliest"))) 3 35 rfl rfl), (c.bool (b := PySem.W.keepIn K (.ref (He.ma K (He.ga K "SpanMeter") "earliest"))) 3 33 rfl rfl)⟩,
    b48,
    F49,
    ⟨(c.bit (p := PySem.W.findIn K (.ref (He.ga K "SpanMeter")) "let" = some (some (.ref (He.ma K (He.ga K "SpanMeter") "let")))) 3 38 rfl rfl), (c.bool (b := PySem.W.isFn K (.ref (He.ma K (He.ga K "SpanMeter") "let"))) 3 39 rfl rfl), (c.bool (b := PySem.W.keepIn K (.ref (He.ma K (He.ga K "SpanMeter") "let"))) 3 37 rfl rfl)⟩,
    b49,
    F50,
    b50,
    F51,
    ⟨(c.bit (p := PySem.W.findIn K (.ref (He.ga K "BucketMeter")) "missing_at" = some (some (.ref (He.ma K (He.ga K "BucketMeter") "missing_at")))) 4 4 rfl rfl), (c.bool (b := PySem.W.isFn K (.ref (He.ma K (He.ga K "BucketMeter") "missing_at"))) 4 5 rfl rfl), (c.bool (b := PySem.W.keepIn K (.ref (He.ma K (He.ga K "BucketMeter") "missing_at"))) 4 3 rfl rfl)⟩,
    b51,
    F52,
    ⟨(c.bit (p := PySem.W.findIn K (.ref (He.ga K "BucketMeter")) "too_much" = some (some (.ref (He.ma K (He.ga K "BucketMeter") "too_much")))) 4 8 rfl rfl), (c.bool (b := PySem.W.isFn K (.ref (He.ma K (He.ga K "BucketMeter") "too_much"))) 4 9 rfl rfl), (c.bool (b := PySem.W.keepIn K (.ref (He.ma K (He.ga K "BucketMeter") "too_much"))) 4 7 rfl rfl)⟩,
    b52,
    F53,
    ⟨(c.bit (p := PySem.W.findIn K (.ref (He.ga K "BucketMeter")) "room" = some (some (.ref (He.ma K (He.ga K "BucketMeter") "room")))) 4 12 rfl rfl), (c.bool (b := PySem.W.isFn K (.ref (He.ma K (He.ga K "BucketMeter") "room"))) 4 13 rfl rfl), (c.bool (b := PySem.W.keepIn K (.ref (He.ma K (He.ga K "BucketMeter") "room"))) 4 11 rfl rfl)⟩,
    b53,
    F54,
    ⟨(c.bit (p := PySem.W.findIn K (.ref (He.ga K "BucketMeter")) "earliest" = some (some (.ref (He.ma K (He.ga K "BucketMeter") "earliest")))) 4 16 rfl rfl), (c.bool (b := PySem.W.isFn K (.ref (He.ma K (He.ga K "BucketMeter") "earliest"))) 4 17 rfl rfl), (c.bool (b := PySem.W.keepIn K (.ref (He.ma K (He.ga K "BucketMeter") "earliest"))) 4 15 rfl rfl)⟩,
    b54,
    F55,
    ⟨(c.bit (p := PySem.W.findIn K (.ref (He.ga K "BucketMeter")) "let" = some (some (.ref (He.ma K (He.ga K "BucketMeter") "let")))) 4 20 rfl rfl), (c.bool (b := PySem.W.isFn K (.ref (He.ma K (He.ga K "BucketMeter") "let"))) 4 21 rfl rfl), (c.bool (b := PySem.W.keepIn K (.ref (He.ma K (He.ga K "BucketMeter") "let"))) 4 19 rfl rfl)⟩,
    b55,
    F56,
    b56,
    F57,
    ⟨(c.bit (p := PySem.W.findIn K (.ref (He.ga K "GapMeter")) "room" = some (some (.ref (He.ma K (He.ga K "GapMeter") "room")))) 4 26 rfl rfl), (c.bool (b := PySem.W.isFn K (.ref (He.ma K (He.ga K "GapMeter") "room"))) 4 27 rfl rfl), (c.bool (b := PySem.W.keepIn K (.ref (He.ma K (He.ga K "GapMeter") "room"))) 4 25 rfl rfl)⟩,
    b57,
    F58,
    ⟨(c.bit (p := PySem.W.findIn K (.ref (He.ga K "GapMeter")) "earliest" = some (some (.ref (He.ma K (He.ga K "GapMeter") "earliest")))) 4 30 rfl rfl), (c.bool (b := PySem.W.isFn K (.ref (He.ma K (He.ga K "GapMeter") "earliest"))) 4 31 rfl rfl), (c.bool (b := PySem.W.keepIn K (.ref (He.ma K (He.ga K "GapMeter") "earliest"))) 4 29 rfl rfl)⟩,
    b58,
    F59,
    ⟨(c.bit (p := PySem.W.findIn K (.ref (He.ga K "GapMeter")) "let" = some (some (.ref (He.ma K (He.ga K "GapMeter") "let")))) 4 34 rfl rfl), (c.bool (b := PySem.W.isFn K (.ref (He.ma K (He.ga K "GapMeter") "let"))) 4 35 rfl rfl), (c.bool (b := PySem.W.keepIn K (.ref (He.ma K (He.ga K "GapMeter") "let"))) 4 33 rfl rfl)⟩,
    b59,
    F60,
    b60,
    F61,
    ⟨(c.bit (p := PySem.W.findIn K (.ref (He.ga K "HeldMeter")) "room" = some (some (.ref (He.ma K (He.ga K "HeldMeter") "room")))) 5 0 rfl rfl), (c.bool (b := PySem.W.isFn K (.ref (He.ma K (He.ga K "HeldMeter") "room"))) 5 1 rfl rfl), (c.bool (b := PySem.W.keepIn K (.ref (He.ma K (He.ga K "HeldMeter") "room"))) 4 39 rfl rfl)⟩,
    b61,
    F62,
    ⟨(c.bit (p := PySem.W.findIn K (.ref (He.ga K "HeldMeter")) "earliest" = some (some (.ref (He.ma K (He.ga K "HeldMeter") "earliest")))) 5 4 rfl rfl), (c.bool (b := PySem.W.isFn K (.ref (He.ma K (He.ga K "HeldMeter") "earliest"))) 5 5 rfl rfl), (c.bool (b := PySem.W.keepIn K (.ref (He.ma K (He.ga K "HeldMeter") "earliest"))) 5 3 rfl rfl)⟩,
    b62,
    F63,
    ⟨(c.bit (p := PySem.W.findIn K (.ref (He.ga K "HeldMeter")) "let" = some (some (.ref (He.ma K (He.ga K "HeldMeter") "let")))) 5 8 rfl rfl), (c.bool (b := PySem.W.isFn K (.ref (He.ma K (He.ga K "HeldMeter") "let"))) 5 9 rfl rfl), (c.bool (b := PySem.W.keepIn K (.ref (He.ma K (He.ga K "HeldMeter") "let"))) 5 7 rfl rfl)⟩,
    b63,
    F64,
    b64,
    F65,
    ⟨(c.bit (p := PySem.W.findIn K (.ref (He.ga K "PoolMeter")) "borrowed" = some (some (.ref (He.ma K (He.ga K "PoolMeter") "borrowed")))) 5 14 rfl rfl), (c.bool (b := PySem.W.isFn K (.ref (He.ma K (He.ga K "PoolMeter") "borrowed"))) 5 15 rfl rfl), (c.bool (b := PySem.W.keepIn K (.ref (He.ma K (He.ga K "PoolMeter") "borrowed"))) 5 13 rfl rfl)⟩,
    b65,
    F66,
    ⟨(c.bit (p := PySem.W.findIn K (.ref (He.ga K "PoolMeter")) "room" = some (some (.ref (He.ma K (He.ga K "PoolMeter") "room")))) 5 18 rfl rfl), (c.bool (b := PySem.W.isFn K (.ref (He.ma K (He.ga K "PoolMeter") "room"))) 5 19 rfl rfl), (c.bool (b := PySem.W.keepIn K (.ref (He.ma K (He.ga K "PoolMeter") "room"))) 5 17 rfl rfl)⟩,
    b66,
    F67,
    ⟨(c.bit (p := PySem.W.findIn K (.ref (He.ga K "PoolMeter")) "earliest" = some (some (.ref (He.ma K (He.ga K "PoolMeter") "earliest")))) 5 22 rfl rfl), (c.bool (b := PySem.W.isFn K (.ref (He.ma K (He.ga K "PoolMeter") "earliest"))) 5 23 rfl rfl), (c.bool (b := PySem.W.keepIn K (.ref (He.ma K (He.ga K "PoolMeter") "earliest"))) 5 21 rfl rfl)⟩,
    b67,
    F68,
    ⟨(c.bit (p := PySem.W.findIn K (.ref (He.ga K "PoolMeter")) "let" = some (some (.ref (He.ma K (He.ga K "PoolMeter") "let")))) 5 26 rfl rfl), (c.bool (b := PySem.W.isFn K (.ref (He.ma K (He.ga K "PoolMeter") "let"))) 5 27 rfl rfl), (c.bool (b := PySem.W.keepIn K (.ref (He.ma K (He.ga K "PoolMeter") "let"))) 5 25 rfl rfl)⟩,
    b68,
    F69,
    b69,
    F70,
    ⟨(c.bit (p := PySem.W.findIn K (.ref (He.ga K "Answer")) "parts" = some (some (.ref (He.ma K (He.ga K "Answer") "parts")))) 5 32 rfl rfl), (c.bool (b := PySem.W.isFn K (.ref (He.ma K (He.ga K "Answer") "parts"))) 5 33 rfl rfl), (c.bool (b := PySem.W.keepIn K (.ref (He.ma K (He.ga K "Answer") "parts"))) 5 31 rfl rfl)⟩,
    b70,
    F71,
    b71,
    F72,
    ⟨(c.bit (p := PySem.W.findIn K (.ref (He.ga K "Keeper")) "_check_next" = some (some (.ref (He.ma K (He.ga K "Keeper") "_check_next")))) 5 38 rfl rfl), (c.bool (b := PySem.W.isFn K (.ref (He.ma K (He.ga K "Keeper") "_check_next"))) 5 39 rfl rfl), (c.bool (b := PySem.W.keepIn K (.ref (He.ma K (He.ga K "Keeper") "_check_next"))) 5 37 rfl rfl)⟩,
    b72,
    F73,
    ⟨(c.bit (p := PySem.W.findIn K (.ref (He.ga K "Keeper")) "_check_known" = some (some (.ref (He.ma K (He.ga K "Keeper") "_check_known")))) 6 2 rfl rfl), (c.bool (b := PySem.W.isFn K (.ref (He.ma K (He.ga K "Keeper") "_check_known"))) 6 3 rfl rfl), (c.bool (b := PySem.W.keepIn K (.ref (He.ma K (He.ga K "Keeper") "_check_known"))) 6 1 rfl rfl)⟩,
    b73,
    F74,
    ⟨(c.bit (p := PySem.W.findIn K (.ref (He.ga K "Keeper")) "_let" = some (some (.ref (He.ma K (He.ga K "Keeper") "_let")))) 6 6 rfl rfl), (c.bool (b := PySem.W.isFn K (.ref (He.ma K (He.ga K "Keeper") "_let"))) 6 7 rfl rfl), (c.bool (b := PySem.W.keepIn K (.ref (He.ma K (He.ga K "Keeper") "_let"))) 6 5 rfl rfl)⟩,
    b74,
    F75,
    ⟨(c.bit (p := PySem.W.findIn K (.ref (He.ga K "Keeper")) "_earliest" = some (some (.ref (He.ma K (He.ga K "Keeper") "_earliest")))) 6 10 rfl rfl), (c.bool (b := PySem.W.isFn K (.ref (He.ma K (He.ga K "Keeper") "_earliest"))) 6 11 rfl rfl), (c.bool (b := PySem.W.keepIn K (.ref (He.ma K (He.ga K "Keeper") "_earliest"))) 6 9 rfl rfl)⟩,
    b75,
    F76,
    ⟨(c.bit (p := PySem.W.findIn K (.ref (He.ga K "Keeper")) "ask" = some (some (.ref (He.ma K (He.ga K "Keeper") "ask")))) 6 14 rfl rfl), (c.bool (b := PySem.W.isFn K (.ref (He.ma K (He.ga K "Keeper") "ask"))) 6 15 rfl rfl), (c.bool (b := PySem.W.keepIn K (.ref (He.ma K (He.ga K "Keeper") "ask"))) 6 13 rfl rfl)⟩,
    b76,
    F77,
    ⟨(c.bit (p := PySem.W.findIn K (.ref (He.ga K "Keeper")) "knows" = some (some (.ref (He.ma K (He.ga K "Keeper") "knows")))) 6 18 rfl rfl), (c.bool (b := PySem.W.isFn K (.ref (He.ma K (He.ga K "Keeper") "knows"))) 6 19 rfl rfl), (c.bool (b := PySem.W.keepIn K (.ref (He.ma K (He.ga K "Keeper") "knows"))) 6 17 rfl rfl)⟩,
    b77,
    F78,
    ⟨(c.bit (p := PySem.W.findIn K (.ref (He.ga K "Keeper")) "answer_of" = some (some (.ref (He.ma K (He.ga K "Keeper") "answer_of")))) 6 22 rfl rfl), (c.bool (b := PySem.W.isFn K (.ref (He.ma K (He.ga K "Keeper") "answer_of"))) 6 23 rfl rfl), (c.bool (b := PySem.W.keepIn K (.ref (He.ma K (He.ga K "Keeper") "answer_of"))) 6 21 rfl rfl)⟩,
    b78,
    PySem.W.mg_none_of X G (c.bit (p := PySem.W.nsIn K mainGlobals "abs" = some none) 6 24 rfl rfl),
    PySem.W.mg_none_of X G (c.bit (p := PySem.W.nsIn K mainGlobals "all" = some none) 6 25 rfl rfl),
    PySem.W.mg_none_of X G (c.bit (p := PySem.W.nsIn K mainGlobals "bool" = some none) 6 26 rfl rfl),
    PySem.W.mg_none_of X G (c.bit (p := PySem.W.nsIn K mainGlobals "int" = some none) 6 27 rfl rfl),
    PySem.W.mg_none_of X G (c.bit (p := PySem.W.nsIn K mainGlobals "isinstance" = some none) 6 28 rfl rfl),
    PySem.W.mg_none_of X G (c.bit (p := PySem.W.nsIn K mainGlobals "len" = some none) 6 29 rfl rfl),
    PySem.W.mg_none_of X G (c.bit (p := PySem.W.nsIn K mainGlobals "list" = some none) 6 30 rfl rfl),
    PySem.W.mg_none_of X G (c.bit (p := PySem.W.nsIn K mainGlobals "max" = some none) 6 31 rfl rfl),
    PySem.W.mg_none_of X G (c.bit (p := PySem.W.nsIn K mainGlobals "min" = some none) 6 32 rfl rfl),
    PySem.W.mg_none_of X G (c.bit (p := PySem.W.nsIn K mainGlobals "range" = some none) 6 33 rfl rfl),
    PySem.W.mg_none_of X G (c.bit (p := PySem.W.nsIn K mainGlobals "set" = some none) 6 34 rfl rfl),
    PySem.W.mg_none_of X G (c.bit (p := PySem.W.nsIn K mainGlobals "sorted" = some none) 6 35 rfl rfl),
    PySem.W.mg_none_of X G (c.bit (p := PySem.W.nsIn K mainGlobals "sum" = some none) 6 36 rfl rfl),
    PySem.W.mg_none_of X G (c.bit (p := PySem.W.nsIn K mainGlobals "tuple" = some none) 6 37 rfl rfl),
    PySem.W.mg_none_of X G (c.bit (p := PySem.W.nsIn K mainGlobals "zip" = some none) 6 38 rfl rfl),
    Hd.con_str X G (c.bool (b := (He.Fa.str "LETTERS" "abcdefghijklmnopqrstuvwxyz0123456789").ok K) 6 39 rfl rfl),
    Hd.con_int X G (c.bool (b := (He.Fa.int "MOST_MOMENT" (1000000000)).ok K) 7 0 rfl rfl),
    Hd.con_int X G (c.bool (b := (He.Fa.int "MOST_NUMBER" (1000000)).ok K) 7 1 rfl rfl),
    Hd.con_int X G (c.bool (b := (He.Fa.int "MOST_KEYS" (2000)).ok K) 7 2 rfl rfl),
    e0,
    ⟨(c.bit (p := PySem.W.findIn K (.ref (He.ga K "KeyKnown")) "__getattribute__" = some (some (.builtin "BaseException.__getattribute__"))) 7 7 rfl rfl), (c.bit (p := PySem.W.findIn K (.ref (He.ga K "KeyKnown")) "__getattr__" = some none) 7 8 rfl rfl), (c.bit (p := PySem.W.subIn K (.ref (He.ga K "KeyKnown")) (.type "BaseException") = some true) 7 3 rfl rfl), (c.bool (b := PySem.W.hasDictIn K (He.ga K "KeyKnown")) 7 9 rfl rfl), (c.bit (p := PySem.W.findIn K (.ref (He.ga K "KeyKnown")) "__class__" = some (some (.builtin "object.__class__"))) 7 23 rfl rfl), (c.bit (p := PySem.W.specialIn K (.builtin "object.__class__") "__get__" = some (some (.builtin "getset_descriptor.__get__"))) 7 24 rfl rfl), (c.bit (p := PySem.W.takesIn K (.builtin "object.__class__") = some true) 7 25 rfl rfl), (c.bit (p := PySem.W.mroIn K (He.ga K "KeyKnown") (.type "object") = some true) 7 26 rfl rfl)⟩,
    e1,
    ⟨(c.bit (p := PySem.W.findIn K (.ref (He.ga K "UnknownKey")) "__getattribute__" = some (some (.builtin "BaseException.__getattribute__"))) 7 31 rfl rfl), (c.bit (p := PySem.W.findIn K (.ref (He.ga K "UnknownKey")) "__getattr__" = some none) 7 32 rfl rfl), (c.bit (p := PySem.W.subIn K (.ref (He.ga K "UnknownKey")) (.type "BaseException") = some true) 7 27 rfl rfl), (c.bool (b := PySem.W.hasDictIn K (He.ga K "UnknownKey")) 7 33 rfl rfl), (c.bit (p := PySem.W.findIn K (.ref (He.ga K "UnknownKey")) "__class__" = some (some (.builtin "object.__class__"))) 8 5 rfl rfl), (c.bit (p := PySem.W.specialIn K (.builtin "object.__class__") "__get__" = some (some (.builtin "getset_descriptor.__get__"))) 7 24 rfl rfl), (c.bit (p := PySem.W.takesIn K (.builtin "object.__class__") = some true) 7 25 rfl rfl), (c.bit (p := PySem.W.mroIn K (He.ga K "UnknownKey") (.type "object") = some true) 8 6 rfl rfl)⟩,
    e2,
    ⟨(c.bit (p := PySem.W.findIn K (.ref (He.ga K "EarlierMoment")) "__getattribute__" = some (some (.builtin "BaseException.__getattribute__"))) 8 11 rfl rfl), (c.bit (p := PySem.W.findIn K (.ref (He.ga K "EarlierMoment")) "__getattr__" = some none) 8 12 rfl rfl), (c.bit (p := PySem.W.subIn K (.ref (He.ga K "EarlierMoment")) (.type "BaseException") = some true) 8 7 rfl rfl), (c.bool (b := PySem.W.hasDictIn K (He.ga K "EarlierMoment")) 8 13 rfl rfl), (c.bit (p := PySem.W.findIn K (.ref (He.ga K "EarlierMoment")) "__class__" = some (some (.builtin "object.__class__"))) 8 25 rfl rfl), (c.bit (p := PySem.W.specialIn K (.builtin "object.__class__") "__get__" = some (some (.builtin "getset_descriptor.__get__"))) 7 24 rfl rfl), (c.bit (p := PySem.W.takesIn K (.builtin "object.__class__") = some true) 7 25 rfl rfl), (c.bit (p := PySem.W.mroIn K (He.ga K "EarlierMoment") (.type "object") = some true) 8 26 rfl rfl)⟩,
    ⟨(c.bool (b := PySem.W.plainGet K (He.ga K "Book") Str.empty) 8 27 rfl rfl), (c.bool (b := PySem.W.hasDictIn K (He.ga K "Book")) 8 28 rfl rfl), (c.bool (b := PySem.W.plainOver K (He.ga K "Book")) 8 29 rfl rfl), (c.bit (p := PySem.W.findIn K (.ref (He.ga K "Book")) "__setattr__" = some (some (.builtin "object.__setattr__"))) 8 30 rfl rfl)⟩,
    (PySem.W.mg_of X G (c.bit (p := PySem.W.nsIn K mainGlobals "Book" = some (some (.ref (He.ga K "Book")))) 8 31 rfl rfl)),
    ⟨(c.bool (b := PySem.W.makesIn K (He.ga K "Book")) 8 32 rfl rfl), (c.bit (p := PySem.W.findIn K (.ref (He.ga K "Book")) "__init__" = some (some (.ref (He.ma K (He.ga K "Book") "__init__")))) 8 33 rfl rfl), (c.bool (b := PySem.W.isFn K (.ref (He.ma K (He.ga K "Book") "__init__"))) 8 34 rfl rfl), (c.bool (b := PySem.W.keepIn K (.ref (He.ga K "Book"))) 8 35 rfl rfl)⟩,
    (c.bit (p := PySem.W.findIn K (.ref (He.ga K "Book")) "_limits" = some none) 8 36 rfl rfl),
    ⟨(c.bool (b := PySem.W.plainGet K (He.ga K "WindowMeter") Str.empty) 8 37 rfl rfl), (c.bool (b := PySem.W.hasDictIn K (He.ga K "WindowMeter")) 8 38 rfl rfl), (c.bool (b := PySem.W.plainOver K (He.ga K "WindowMeter")) 8 39 rfl rfl), (c.bit (p := PySem.W.findIn K (.ref (He.ga K "WindowMeter")) "__setattr__" = some (some (.builtin "object.__setattr__"))) 9 0 rfl rfl)⟩,
    (PySem.W.mg_of X G (c.bit (p := PySem.W.nsIn K mainGlobals "WindowMeter" = some (some (.ref (He.ga K "WindowMeter")))) 9 1 rfl rfl)),
    ⟨(c.bool (b := PySem.W.makesIn K (He.ga K "WindowMeter")) 9 2 rfl rfl), (c.bit (p := PySem.W.findIn K (.ref (He.ga K "WindowMeter")) "__init__" = some (some (.ref (He.ma K (He.ga K "WindowMeter") "__init__")))) 9 3 rfl rfl), (c.bool (b := PySem.W.isFn K (.ref (He.ma K (He.ga K "WindowMeter") "__init__"))) 9 4 rfl rfl), (c.bool (b := PySem.W.keepIn K (.ref (He.ga K "WindowMeter"))) 9 5 rfl rfl)⟩,
    (c.bit (p := PySem.W.findIn K (.ref (He.ga K "WindowMeter")) "limit" = some none) 9 6 rfl rfl),
    (c.bit (p := PySem.W.findIn K (.ref (He.ga K "WindowMeter")) "_sums" = some none) 9 7 rfl rfl),
    (c.bit (p := PySem.W.findIn K (.ref (He.ga K "WindowMeter")) "_most" = some none) 9 8 rfl rfl),
    (c.bit (p := PySem.W.findIn K (.ref (He.ga K "WindowMeter")) "_length" = some none) 9 9 rfl rfl),
    ⟨(c.bool (b := PySem.W.plainGet K (He.ga K "SpanMeter") Str.empty) 9 10 rfl rfl), (c.bool (b := PySem.W.hasDictIn K (He.ga K "SpanMeter")) 9 11 rfl rfl), (c.bool (b := PySem.W.plainOver K (He.ga K "SpanMeter")) 9 12 rfl rfl), (c.bit (p := PySem.W.findIn K (.ref (He.ga K "SpanMeter")) "__setattr__" = some (some (.builtin "object.__setattr__"))) 9 13 rfl rfl)⟩,
    (PySem.W.mg_of X G (c.bit (p := PySem.W.nsIn K mainGlobals "SpanMeter" = some (some (.ref (He.ga K "SpanMeter")))) 9 14 rfl rfl)),
    ⟨(c.bool (b := PySem.W.makesIn K (He.ga K "SpanMeter")) 9 15 rfl rfl), (c.bit (p := PySem.W.findIn K (.ref (He.ga K "SpanMeter")) "__init__" = some (some (.ref (He.ma K (He.ga K "SpanMeter") "__init__")))) 9 16 rfl rfl), (c.bool (b := PySem.W.isFn K (.ref (He.ma K (He.ga K "SpanMeter") "__init__"))) 9 17 rfl rfl), (c.bool (b := PySem.W.keepIn K (.ref (He.ga K "SpanMeter"))) 9 18 rfl rfl)⟩,
    (c.bit (p := PySem.W.findIn K (.ref (He.ga K "SpanMeter")) "limit" = some none) 9 19 rfl rfl),
    (c.bit (p := PySem.W.findIn K (.ref (He.ga K "SpanMeter")) "_span" = some none) 9 20 rfl rfl),
    (c.bit (p := PySem.W.findIn K (.ref (He.ga K "SpanMeter")) "_used" = some none) 9 21 rfl rfl),
    (c.bit (p := PySem.W.findIn K (.ref (He.ga K "SpanMeter")) "_most" = some none) 9 22 rfl rfl),
    (c.bit (p := PySem.W.findIn K (.ref (He.ga K "SpanMeter")) "_length" = some none) 9 23 rfl rfl),
    ⟨(c.bool (b := PySem.W.plainGet K (He.ga K "BucketMeter") Str.empty) 9 24 rfl rfl), (c.bool (b := PySem.W.hasDictIn K (He.ga K "BucketMeter")) 9 25 rfl rfl), (c.bool (b := PySem.W.plainOver K (He.ga K "BucketMeter")) 9 26 rfl rfl), (c.bit (p := PySem.W.findIn K (.ref (He.ga K "BucketMeter")) "__setattr__" = some (some (.builtin "object.__setattr__"))) 9 27 rfl rfl)⟩,
    (PySem.W.mg_of X G (c.bit (p := PySem.W.nsIn K mainGlobals "BucketMeter" = some (some (.ref (He.ga K "BucketMeter")))) 9 28 rfl rfl)),
    ⟨(c.bool (b := PySem.W.makesIn K (He.ga K "BucketMeter")) 9 29 rfl rfl), (c.bit (p := PySem.W.findIn K (.ref (He.ga K "BucketMeter")) "__init__" = some (some (.ref (He.ma K (He.ga K "BucketMeter") "__init__")))) 9 30 rfl rfl), (c.bool (b := PySem.W.isFn K (.ref (He.ma K (He.ga K "BucketMeter") "__init__"))) 9 31 rfl rfl), (c.bool (b := PySem.W.keepIn K (.ref (He.ga K "BucketMeter"))) 9 32 rfl rfl)⟩,
    (c.bit (p := PySem.W.findIn K (.ref (He.ga K "BucketMeter")) "limit" = some none) 9 33 rfl rfl),
    (c.bit (p := PySem.W.findIn K (.ref (He.ga K "BucketMeter")) "_missing" = some none) 9 34 rfl rfl),
    (c.bit (p := PySem.W.findIn K (.ref (He.ga K "BucketMeter")) "_moment" = some none) 9 35 rfl rfl),
    (c.bit (p := PySem.W.findIn K (.ref (He.ga K "BucketMeter")) "_size" = some none) 9 36 rfl rfl),
    (c.bit (p := PySem.W.findIn K (.ref (He.ga K "BucketMeter")) "_every" = some none) 9 37 rfl rfl),
    ⟨(c.bool (b := PySem.W.plainGet K (He.ga K "GapMeter") Str.empty) 9 38 rfl rfl), (c.bool (b := PySem.W.hasDictIn K (He.ga K "GapMeter")) 9 39 rfl rfl), (c.bool (b := PySem.W.plainOver K (He.ga K "GapMeter")) 10 0 rfl rfl), (c.bit (p := PySem.W.findIn K (.ref (He.ga K "GapMeter")) "__setattr__" = some (some (.builtin "object.__setattr__"))) 10 1 rfl rfl)⟩,
    (PySem.W.mg_of X G (c.bit (p := PySem.W.nsIn K mainGlobals "GapMeter" = some (some (.ref (He.ga K "GapMeter")))) 10 2 rfl rfl)),
    ⟨(c.bool (b := PySem.W.makesIn K (He.ga K "GapMeter")) 10 3 rfl rfl), (c.bit (p := PySem.W.findIn K (.ref (He.ga K "GapMeter")) "__init__" = some (some (.ref (He.ma K (He.ga K "GapMeter") "__init__")))) 10 4 rfl rfl), (c.bool (b := PySem.W.isFn K (.ref (He.ma K (He.ga K "GapMeter") "__init__"))) 10 5 rfl rfl), (c.bool (b := PySem.W.keepIn K (.ref (He.ga K "GapMeter"))) 10 6 rfl rfl)⟩,
    (c.bit (p := PySem.W.findIn K (.ref (He.ga K "GapMeter")) "limit" = some none) 10 7 rfl rfl),
    (c.bit (p := PySem.W.findIn K (.ref (He.ga K "GapMeter")) "_ticks" = some none) 10 8 rfl rfl),
    (c.bit (p := PySem.W.findIn K (.ref (He.ga K "GapMeter")) "_last" = some none) 10 9 rfl rfl),
    ⟨(c.bool (b := PySem.W.plainGet K (He.ga K "HeldMeter") Str.empty) 10 10 rfl rfl), (c.bool (b := PySem.W.hasDictIn K (He.ga K "HeldMeter")) 10 11 rfl rfl), (c.bool (b := PySem.W.plainOver K (He.ga K "HeldMeter")) 10 12 rfl rfl), (c.bit (p := PySem.W.findIn K (.ref (He.ga K "HeldMeter")) "__setattr__" = some (some (.builtin "object.__setattr__"))) 10 13 rfl rfl)⟩,
    (PySem.W.mg_of X G (c.bit (p := PySem.W.nsIn K mainGlobals "HeldMeter" = some (some (.ref (He.ga K "HeldMeter")))) 10 14 rfl rfl)),
    ⟨(c.bool (b := PySem.W.makesIn K (He.ga K "HeldMeter")) 10 15 rfl rfl), (c.bit (p := PySem.W.findIn K (.ref (He.ga K "HeldMeter")) "__init__" = some (some (.ref (He.ma K (He.ga K "HeldMeter") "__init__")))) 10 16 rfl rfl), (c.bool (b := PySem.W.isFn K (.ref (He.ma K (He.ga K "HeldMeter") "__init__"))) 10 17 rfl rfl), (c.bool (b := PySem.W.keepIn K (.ref (He.ga K "HeldMeter"))) 10 18 rfl rfl)⟩,
    (c.bit (p := PySem.W.findIn K (.ref (He.ga K "HeldMeter")) "limit" = some none) 10 19 rfl rfl),
    (c.bit (p := PySem.W.findIn K (.ref (He.ga K "HeldMeter")) "_most" = some none) 10 20 rfl rfl),
    (c.bit (p := PySem.W.findIn K (.ref (He.ga K "HeldMeter")) "_costs" = some none) 10 21 rfl rfl),
    (c.bit (p := PySem.W.findIn K (.ref (He.ga K "HeldMeter")) "_used" = some none) 10 22 rfl rfl),
    ⟨(c.bool (b := PySem.W.plainGet K (He.ga K "PoolMeter") Str.empty) 10 23 rfl rfl), (c.bool (b := PySem.W.hasDictIn K (He.ga K "PoolMeter")) 10 24 rfl rfl), (c.bool (b := PySem.W.plainOver K (He.ga K "PoolMeter")) 10 25 rfl rfl), (c.bit (p := PySem.W.findIn K (.ref (He.ga K "PoolMeter")) "__setattr__" = some (some (.builtin "object.__setattr__"))) 10 26 rfl rfl)⟩,
    (PySem.W.mg_of X G (c.bit (p := PySem.W.nsIn K mainGlobals "PoolMeter" = some (some (.ref (He.ga K "PoolMeter")))) 10 27 rfl rfl)),
    ⟨(c.bool (b := PySem.W.makesIn K (He.ga K "PoolMeter")) 10 28 rfl rfl), (c.bit (p := PySem.W.findIn K (.ref (He.ga K "PoolMeter")) "__init__" = some (some (.ref (He.ma K (He.ga K "PoolMeter") "__init__")))) 10 29 rfl rfl), (c.bool (b := PySem.W.isFn K (.ref (He.ma K (He.ga K "PoolMeter") "__init__"))) 10 30 rfl rfl), (c.bool (b := PySem.W.keepIn K (.ref (He.ga K "PoolMeter"))) 10 31 rfl rfl)⟩,
    (c.bit (p := PySem.W.findIn K (.ref (He.ga K "PoolMeter")) "limit" = some none) 10 32 rfl rfl),
    (c.bit (p := PySem.W.findIn K (.ref (He.ga K "PoolMeter")) "_costs" = some none) 10 33 rfl rfl),
    (c.bit (p := PySem.W.findIn K (.ref (He.ga K "PoolMeter")) "_uses" = some none) 10 34 rfl rfl),
    ⟨(c.bool (b := PySem.W.plainGet K (He.ga K "Answer") Str.empty) 10 35 rfl rfl), (c.bool (b := PySem.W.hasDictIn K (He.ga K "Answer")) 10 36 rfl rfl), (c.bool (b := PySem.W.plainOver K (He.ga K "Answer")) 10 37 rfl rfl), (c.bit (p := PySem.W.findIn K (.ref (He.ga K "Answer")) "__setattr__" = some (some (.builtin "object.__setattr__"))) 10 38 rfl rfl)⟩,
    (PySem.W.mg_of X G (c.bit (p := PySem.W.nsIn K mainGlobals "Answer" = some (some (.ref (He.ga K "Answer")))) 10 39 rfl rfl)),
    ⟨(c.bool (b := PySem.W.makesIn K (He.ga K "Answer")) 11 0 rfl rfl), (c.bit (p := PySem.W.findIn K (.ref (He.ga K "Answer")) "__init__" = some (some (.ref (He.ma K (He.ga K "Answer") "__init__")))) 11 1 rfl rfl), (c.bool (b := PySem.W.isFn K (.ref (He.ma K (He.ga K "Answer") "__init__"))) 11 2 rfl rfl), (c.bool (b := PySem.W.keepIn K (.ref (He.ga K "Answer"))) 11 3 rfl rfl)⟩,
    (c.bit (p := PySem.W.findIn K (.ref (He.ga K "Answer")) "key" = some none) 11 4 rfl rfl),
    (c.bit (p := PySem.W.findIn K (.ref (He.ga K "Answer")) "moment" = some none) 11 5 rfl rfl),
    (c.bit (p := PySem.W.findIn K (.ref (He.ga K "Answer")) "lacking" = some none) 11 6 rfl rfl),
    (c.bit (p := PySem.W.findIn K (.ref (He.ga K "Answer")) "earliest" = some none) 11 7 rfl rfl),
    (c.bit (p := PySem.W.findIn K (.ref (He.ga K "Answer")) "is_let" = some none) 11 8 rfl rfl),
    ⟨⟨(c.bool (b := PySem.W.plainGet K (He.ga K "Answer") Str.empty) 10 35 rfl rfl), (c.bool (b := PySem.W.hasDictIn K (He.ga K "Answer")) 10 36 rfl rfl), (c.bool (b := PySem.W.plainOver K (He.ga K "Answer")) 10 37 rfl rfl), (c.bit (p := PySem.W.findIn K (.ref (He.ga K "Answer")) "__setattr__" = some (some (.builtin "object.__setattr__"))) 10 38 rfl rfl)⟩, (c.bit (p := PySem.W.findIn K (.ref (He.ga K "Answer")) "__class__" = some (some (.builtin "object.__class__"))) 11 9 rfl rfl), (c.bit (p := PySem.W.specialIn K (.builtin "object.__class__") "__get__" = some (some (.builtin "getset_descriptor.__get__"))) 7 24 rfl rfl), (c.bit (p := PySem.W.takesIn K (.builtin "object.__class__") = some true) 7 25 rfl rfl), (c.bit (p := PySem.W.mroIn K (He.ga K "Answer") (.type "object") = some true) 11 10 rfl rfl), (c.bit (p := PySem.W.kitOne K (.ref (He.ga K "Answer")) (.ref (He.ga K "Answer")) = some true) 11 11 rfl rfl)⟩,
    ⟨(c.bool (b := PySem.W.plainGet K (He.ga K "Keeper") Str.empty) 11 12 rfl rfl), (c.bool (b := PySem.W.hasDictIn K (He.ga K "Keeper")) 11 13 rfl rfl), (c.bool (b := PySem.W.plainOver K (He.ga K "Keeper")) 11 14 rfl rfl), (c.bit (p := PySem.W.findIn K (.ref (He.ga K "Keeper")) "__setattr__" = some (some (.builtin "object.__setattr__"))) 11 15 rfl rfl)⟩,
    (PySem.W.mg_of X G (c.bit (p := PySem.W.nsIn K mainGlobals "Keeper" = some (some (.ref (He.ga K "Keeper")))) 11 16 rfl rfl)),
    ⟨(c.bool (b := PySem.W.makesIn K (He.ga K "Keeper")) 11 17 rfl rfl), (c.bit (p := PySem.W.findIn K (.ref (He.ga K "Keeper")) "__init__" = some (some (.ref (He.ma K (He.ga K "Keeper") "__init__")))) 11 18 rfl rfl), (c.bool (b := PySem.W.isFn K (.ref (He.ma K (He.ga K "Keeper") "__init__"))) 11 19 rfl rfl), (c.bool (b := PySem.W.keepIn K (.ref (He.ga K "Keeper"))) 11 20 rfl rfl)⟩,
    (c.bit (p := PySem.W.findIn K (.ref (He.ga K "Keeper")) "book" = some none) 11 21 rfl rfl),
    (c.bit (p := PySem.W.findIn K (.ref (He.ga K "Keeper")) "moment" = some none) 11 22 rfl rfl),
    (c.bit (p := PySem.W.findIn K (.ref (He.ga K "Keeper")) "_meters" = some none) 11 23 rfl rfl),
    (c.bit (p := PySem.W.findIn K (.ref (He.ga K "Keeper")) "_asked" = some none) 11 24 rfl rfl),
    (c.bit (p := PySem.W.findIn K (.ref (He.ga K "Keeper")) "_released" = some none) 11 25 rfl rfl),
    ⟨(PySem.W.mg_of X G (c.bit (p := PySem.W.nsIn K mainGlobals "InvalidName" = some (some (.ref (He.ga K "InvalidName")))) 11 30 rfl rfl)), (c.bool (b := PySem.W.excIn K (He.ga K "InvalidName") [.type "ValueError", .type "Exception", .type "BaseException", .type "object"] "ValueError.__new__") 11 31 rfl rfl), (c.bool (b := PySem.W.keepIn K (.ref (He.ga K "InvalidName"))) 11 32 rfl rfl), (c.bit (p := PySem.W.subIn K (.ref (He.ga K "InvalidName")) (.type "BaseException") = some true) 11 26 rfl rfl), (c.bit (p := PySem.W.typeIn K (.ref (He.ga K "InvalidName")) = some (.type "type")) 11 28 rfl rfl), exm_self (c.bit (p := PySem.W.subIn K (.ref (He.ga K "InvalidName")) (.type "BaseException") = some true) 11 26 rfl rfl) (c.bool (b := PySem.W.isClsIn K (He.ga K "InvalidName")) 11 27 rfl rfl) (c.bit (p := PySem.W.typeIn K (.ref (He.ga K "InvalidName")) = some (.type "type")) 11 28 rfl rfl) (c.bit (p := PySem.W.subIn K (.ref (He.ga K "InvalidName")) (.ref (He.ga K "InvalidName")) = some true) 11 29 rfl rfl)⟩,
    ⟨(PySem.W.mg_of X G (c.bit (p := PySem.W.nsIn K mainGlobals "InvalidRequest" = some (some (.ref (He.ga K "InvalidRequest")))) 11 37 rfl rfl)), (c.bool (b := PySem.W.excIn K (He.ga K "InvalidRequest") [.type "ValueError", .type "Exception", .type "BaseException", .type "object"] "ValueError.__new__") 11 38 rfl rfl), (c.bool (b := PySem.W.keepIn K (.ref (He.ga K "InvalidRequest"))) 11 39 rfl rfl), (c.bit (p := PySem.W.subIn K (.ref (He.ga K "InvalidRequest")) (.type "BaseException") = some true) 11 33 rfl rfl), (c.bit (p := PySem.W.typeIn K (.ref (He.ga K "InvalidRequest")) = some (.type "type")) 11 35 rfl rfl), exm_self (c.bit (p := PySem.W.subIn K (.ref (He.ga K "InvalidRequest")) (.type "BaseException") = some true) 11 33 rfl rfl) (c.bool (b := PySem.W.isClsIn K (He.ga K "InvalidRequest")) 11 34 rfl rfl) (c.bit (p := PySem.W.typeIn K (.ref (He.ga K "InvalidRequest")) = some (.type "type")) 11 35 rfl rfl) (c.bit (p := PySem.W.subIn K (.ref (He.ga K "InvalidRequest")) (.ref (He.ga K "InvalidRequest")) = some true) 11 36 rfl rfl)⟩,
    ⟨(PySem.W.mg_of X G (c.bit (p := PySem.W.nsIn K mainGlobals "InvalidLimit" = some (some (.ref (He.ga K "InvalidLimit")))) 12 4 rfl rfl)), (c.bool (b := PySem.W.excIn K (He.ga K "InvalidLimit") [.type "ValueError", .type "Exception", .type "BaseException", .type "object"] "ValueError.__new__") 12 5 rfl rfl), (c.bool (b := PySem.W.keepIn K (.ref (He.ga K "InvalidLimit"))) 12 6 rfl rfl), (c.bit (p := PySem.W.subIn K (.ref (He.ga K "InvalidLimit")) (.type "BaseException") = some true) 12 0 rfl rfl), (c.bit (p := PySem.W.typeIn K (.ref (He.ga K "InvalidLimit")) = some (.type "type")) 12 2 rfl rfl), exm_self (c.bit (p := PySem.W.subIn K (.ref (He.ga K "InvalidLimit")) (.type "BaseException") = some true) 12 0 rfl rfl) (c.bool (b := PySem.W.isClsIn K (He.ga K "InvalidLimit")) 12 1 rfl rfl) (c.bit (p := PySem.W.typeIn K (.ref (He.ga K "InvalidLimit")) = some (.type "type")) 12 2 rfl rfl) (c.bit (p := PySem.W.subIn K (.ref (He.ga K "InvalidLimit")) (.ref (He.ga K "InvalidLimit")) = some true) 12 3 rfl rfl)⟩,
    ⟨(PySem.W.mg_of X G (c.bit (p := PySem.W.nsIn K mainGlobals "InvalidBook" = some (some (.ref (He.ga K "InvalidBook")))) 12 11 rfl rfl)), (c.bool (b := PySem.W.excIn K (He.ga K "InvalidBook") [.type "ValueError", .type "Exception", .type "BaseException", .type "object"] "ValueError.__new__") 12 12 rfl rfl), (c.bool (b := PySem.W.keepIn K (.ref (He.ga K "InvalidBook"))) 12 13 rfl rfl), (c.bit (p := PySem.W.subIn K (.ref (He.ga K "InvalidBook")) (.type "BaseException") = some true) 12 7 rfl rfl), (c.bit (p := PySem.W.typeIn K (.ref (He.ga K "InvalidBook")) = some (.type "type")) 12 9 rfl rfl), exm_self (c.bit (p := PySem.W.subIn K (.ref (He.ga K "InvalidBook")) (.type "BaseException") = some true) 12 7 rfl rfl) (c.bool (b := PySem.W.isClsIn K (He.ga K "InvalidBook")) 12 8 rfl rfl) (c.bit (p := PySem.W.typeIn K (.ref (He.ga K "InvalidBook")) = some (.type "type")) 12 9 rfl rfl) (c.bit (p := PySem.W.subIn K (.ref (He.ga K "InvalidBook")) (.ref (He.ga K "InvalidBook")) = some true) 12 10 rfl rfl)⟩,
    ⟨(PySem.W.mg_of X G (c.bit (p := PySem.W.nsIn K mainGlobals "TooLarge" = some (some (.ref (He.ga K "TooLarge")))) 12 18 rfl rfl)), (c.bool (b := PySem.W.excIn K (He.ga K "TooLarge") [.type "ValueError", .type "Exception", .type "BaseException", .type "object"] "ValueError.__new__") 12 19 rfl rfl), (c.bool (b := PySem.W.keepIn K (.ref (He.ga K "TooLarge"))) 12 20 rfl rfl), (c.bit (p := PySem.W.subIn K (.ref (He.ga K "TooLarge")) (.type "BaseException") = some true) 12 14 rfl rfl), (c.bit (p := PySem.W.typeIn K (.ref (He.ga K "TooLarge")) = some (.type "type")) 12 16 rfl rfl), exm_self (c.bit (p := PySem.W.subIn K (.ref (He.ga K "TooLarge")) (.type "BaseException") = some true) 12 14 rfl rfl) (c.bool (b := PySem.W.isClsIn K (He.ga K "TooLarge")) 12 15 rfl rfl) (c.bit (p := PySem.W.typeIn K (.ref (He.ga K "TooLarge")) = some (.type "type")) 12 16 rfl rfl) (c.bit (p := PySem.W.subIn K (.ref (He.ga K "TooLarge")) (.ref (He.ga K "TooLarge")) = some true) 12 17 rfl rfl)⟩,
    by rfl⟩⟩
def In9 (ns : List Int) : Prop := ∀ n ∈ ns, 0 ≤ n ∧ n < 1009
theorem In9.nil : In9 [] := fun _ h => nomatch h
theorem In9.snoc {ns : List Int} {n : Int} (h : In9 ns) (h0 : 0 ≤ n) (h1 : n < 1009) : In9 (ns ++ [n]) := fun m hm => by
  rcases List.mem_append.mp hm with z | z
  · exact h m z
  · rw [List.mem_singleton.mp z]; exact ⟨h0, h1⟩
theorem In9.at {ns : List Int} (h : In9 ns) (i : Nat) (hi : i < ns.length) : 0 ≤ ns.getD i 0 ∧ ns.getD i 0 < 1009 := by
  have e : ns.getD i 0 = ns[i] := by rw [List.getD_eq_getElem?_getD, List.getElem?_eq_getElem hi]; rfl
  rw [e]
  exact h _ (List.getElem_mem hi)
theorem map_snoc {ns : List Int} {n : Int} : ns.map V.int ++ [V.int n] = (ns ++ [n]).map V.int := by rw [List.map_append]; rfl
def sp__law_row (K : PySem.W.Frag) : Sp := fun vs H Q _ => ∃ (c m : Int), vs = [.int c, .int m] ∧ 0 ≤ m ∧ m ≤ 10000 ∧
  ∀ p H' ns, H p = none → Ex H H' → H' p = some (.lst (ns.map V.int)) → (ns.length : Int) = m → In9 ns → Q (.ref p) H'
def sp__law_numbers (K : PySem.W.Frag) : Sp := fun vs H Q _ => ∃ (l : Addr) (xs : List Int) (m : Int), vs = [.ref l, .int m] ∧ SqL K H l (xs.map V.int) ∧ xs.length ≤ 63 ∧ 0 ≤ m ∧ m ≤ 9000 ∧
  ∀ p H' ns, H p = none → Ex H H' → H' p = some (.lst (ns.map V.int)) → (ns.length : Int) = m → In9 ns → Q (.ref p) H'
def sp_is_name (K : PySem.W.Frag) : Sp := fun vs H Q _ => ∃ z : Str, vs = [.str z] ∧ z.length ≤ 100000 ∧ ∀ H', Ex H H' → Q (.bl (isName z)) H'
def sp_ascends (K : PySem.W.Frag) : Sp := fun vs H Q _ => ∃ (p : Addr) (zs : List Str), vs = [.ref p] ∧ SqQ K H p (zs.map V.str) ∧ zs.length ≤ 1000 ∧ ∀ H', Ex H H' → Q (.bl (ascB zs)) H'
def sp_check_names (K : PySem.W.Frag) : Sp := fun vs H Q _ => ∃ (p : Addr) (zs : List Str), vs = [.ref p] ∧ SqQ K H p (zs.map V.str) ∧ zs.length ≤ 1000 ∧ (∀ z ∈ zs, isName z = true) ∧ ∀ H', Ex H H' → Q .non H'
def sp_are_shares (K : PySem.W.Frag) : Sp := fun vs H Q _ => ∃ (p : Addr) (xs : List (Addr × Shr)), vs = [.ref p] ∧ SqT K H p (xs.map fun x => V.ref x.1) ∧ xs.length ≤ 1000 ∧ (∀ x ∈ xs, SqT K H x.1 [.str x.2.1, .int x.2.2.1, .int x.2.2.2]) ∧ ∀ H', Ex H H' → Q (.bl true) H'
def sp_has_form (K : PySem.W.Frag) : Sp := fun vs H Q _ => ∃ (wd : Str) (p : Addr) (n : Nu) (gs : List Str), vs = [.str wd, .ref p] ∧ NuAt K H p n ∧ n.Ok wd gs ∧ ∀ H', Ex H H' → Q (.bl true) H'
def sp_check_pool (K : PySem.W.Frag) : Sp := fun vs H Q _ => ∃ (g p : Addr) (m : Int) (xs : List (Addr × Shr)), vs = [.ref g, .int m, .ref p] ∧ SqT K H g [] ∧ SqT K H p (xs.map fun x => V.ref x.1) ∧ (∀ x ∈ xs, SqT K H x.1 [.str x.2.1, .int x.2.2.1, .int x.2.2.2]) ∧ (Nu.pool m (xs.map (·.2))).Ok "pool" [] ∧ ∀ H', Ex H H' → Q .non H'
def sp_check_numbers (K : PySem.W.Frag) : Sp := fun vs H Q _ => ∃ (wd : Str) (p : Addr) (ns : List Int), vs = [.str wd, .ref p] ∧ SqT K H p (ns.map V.int) ∧ FlatOk wd ns ∧ ∀ H', Ex H H' → Q .non H'
def sp_check_limit (K : PySem.W.Frag) : Sp := fun vs H Q _ => ∃ (p : Addr) (l : Lm), vs = [.ref p] ∧ LmAt K H p l ∧ l.Ok ∧ ∀ H', Ex H H' → Q .non H'
def sp_first_of (K : PySem.W.Frag) : Sp := fun vs H Q _ => ∃ (p : Addr) (l : Lm), vs = [.ref p] ∧ LmAt K H p l ∧ Q (.str l.nm) H
def flBk (B : Addr) : List (Str × V) := [("_limits", .ref B)]
/-- a book of the limits xs, in order -/
def BookAt (K : PySem.W.Frag) (C : Addr) (H : Hp) (b : Addr) (xs : List (Addr × Lm)) : Prop := ∃ dx B, H b = some (.ins C dx (flBk B)) ∧ H B = some (.lst (xs.map lV)) ∧ LmsAt K H xs ∧ (∀ x ∈ xs, x.2.Ok) ∧ xs.length ≤ 8
theorem BookAt.mono {K : PySem.W.Frag} {C : Addr} {H H' : Hp} {b : Addr} {xs : List (Addr × Lm)} (h : BookAt K C H b xs) (e : Ex H H') : BookAt K C H' b xs := by
  obtain ⟨dx, B, h1, h2, h3, h4⟩ := h
  exact ⟨dx, B, ex_at e h1, ex_at e h2, h3.mono e, h4⟩
def sp_Book_init (K : PySem.W.Frag) (a : Ads) : Sp := fun vs H Q _ => ∃ (m dx p : Addr) (xs : List (Addr × Lm)), vs = [.ref m, .ref p] ∧ H m = some (.ins a.c_Book dx []) ∧ SqL K H p (xs.map lV) ∧ LmsAt K H xs ∧ (∀ x ∈ xs, x.2.Ok) ∧ 1 ≤ xs.length ∧ xs.length ≤ 8 ∧ (xs.map lN).Nodup ∧
  ∀ H', ExP m H H' → BookAt K a.c_Book H' m (sortN xs) → Q .non H'
def sp_looks_at (K : PySem.W.Frag) : Sp := fun vs H Q _ => ∃ (p : Addr) (l : Lm) (g : Str), vs = [.ref p, .str g] ∧ LmAt K H p l ∧ l.Ok ∧ ∀ H', Ex H H' → Q (.bl (seesL l g)) H'
def sp_common_of (K : PySem.W.Frag) : Sp := fun vs H Q _ => ∃ (p : Addr) (nm : Str) (most : Int) (sh : List S3), vs = [.ref p] ∧ LimP K H p nm most sh ∧ ∀ H', Ex H H' → Q (.int (most - ownP sh)) H'
def sp_share_for (K : PySem.W.Frag) : Sp := fun vs H Q _ => ∃ (p : Addr) (nm : Str) (most : Int) (sh : List S3) (g : Str), vs = [.ref p, .str g] ∧ LimP K H p nm most sh ∧ ∀ (q : Addr) H', Ex H H' → SqT K H' q [.int (shareP sh g).1, .int (shareP sh g).2] → Q (.ref q) H'
def sp_WindowMeter_init (K : PySem.W.Frag) (a : Ads) : Sp := fun vs H Q _ => ∃ (m dx p : Addr) (lm : Lm) (s t : Int), vs = [.ref m, .ref p] ∧ H m = some (.ins a.c_WindowMeter dx []) ∧ LimU K H p lm s t ∧ ∀ (pS : Addr) H', H pS = none → ExP m H H' → H' m = some (.ins a.c_WindowMeter dx (flW p s t pS)) → SumsAt K H' pS [] → Q .non H'
def sp_WindowMeter_sums_since (K : PySem.W.Frag) (a : Ads) : Sp := fun vs H Q _ => ∃ (m dx p pS : Addr) (s t : Int) (qs : List (Addr × MC)) (mo : Int), vs = [.ref m, .int mo] ∧ H m = some (.ins a.c_WindowMeter dx (flW p s t pS)) ∧ SumsAt K H pS qs ∧ qs.length ≤ 1000 ∧ ∀ (l : Addr) H', H l = none → Ex H H' → SumsAt K H' l (qs.filter fun x => decide (x.2.1 > mo - t)) → Q (.ref l) H'
def sp_WindowMeter_room (K : PySem.W.Frag) (a : Ads) : Sp := fun vs H Q _ => ∃ (m dx p pS : Addr) (lm : Lm) (s t : Int) (qs : List (Addr × MC)) (mo : Int) (g : Str) (c : Int), vs = [.ref m, .int mo, .str g, .int c] ∧ H m = some (.ins a.c_WindowMeter dx (flW p s t pS)) ∧ LimU K H p lm s t ∧ 1 ≤ t ∧ SumsAt K H pS qs ∧ qs.length ≤ 1000 ∧ ∀ H', Ex H H' → Q (.bl (!seesL lm g || decide (sumC (live t mo (qs.map (·.2))) + c ≤ s))) H'
def sp_WindowMeter_earliest (K : PySem.W.Frag) (a : Ads) : Sp := fun vs H Q _ => ∃ (m dx p pS : Addr) (lm : Lm) (s t : Int) (qs : List (Addr × MC)) (mo : Int) (g : Str) (c : Int), vs = [.ref m, .int mo, .str g, .int c] ∧ H m = some (.ins a.c_WindowMeter dx (flW p s t pS)) ∧ LimU K H p lm s t ∧ 1 ≤ t ∧ SumsAt K H pS qs ∧ qs.length ≤ 1000 ∧ ∀ H', Ex H H' → Q (oN (if seesL lm g then earlW s t c mo (live t mo (qs.map (·.2))) else some mo)) H'
def sp_WindowMeter_let (K : PySem.W.Frag) (a : Ads) : Sp := fun vs H Q _ => ∃ (m dx p pS : Addr) (lm : Lm) (s t : Int) (qs : List (Addr × MC)) (mo : Int) (g : Str) (c : Int) (k : Str), vs = [.ref m, .int mo, .str g, .int c, .str k] ∧ H m = some (.ins a.c_WindowMeter dx (flW p s t pS)) ∧ LimU K H p lm s t ∧ 1 ≤ t ∧ SumsAt K H pS qs ∧ qs.length ≤ 1000 ∧ ∀ (pS2 : Addr) (qs2 : List (Addr × MC)) H', (pS2 = pS ∨ H pS2 = none) → ExP m H H' → H' m = some (.ins a.c_WindowMeter dx (flW p s t pS2)) → SumsAt K H' pS2 qs2 → qs2.length ≤ qs.length + 1 → qs2.map (·.2) = (if seesL lm g then letW t mo c (qs.map (·.2)) else qs.map (·.2)) → Q .non H'
def sp_SpanMeter_init (K : PySem.W.Frag) (a : Ads) : Sp := fun vs H Q _ => ∃ (m dx p : Addr) (lm : Lm) (s t : Int), vs = [.ref m, .ref p] ∧ H m = some (.ins a.c_SpanMeter dx []) ∧ LimU K H p lm s t ∧ ∀ H', ExP m H H' → H' m = some (.ins a.c_SpanMeter dx (flS p s t 0 0)) → Q .non H'
def sp_SpanMeter_used_in (K : PySem.W.Frag) (a : Ads) : Sp := fun vs H Q _ => ∃ (m dx p : Addr) (s t sp us mo : Int), vs = [.ref m, .int mo] ∧ H m = some (.ins a.c_SpanMeter dx (flS p s t sp us)) ∧ 1 ≤ t ∧ t ≤ 1000000 ∧ Q (.int (usedS t sp us mo)) H
def sp_SpanMeter_room (K : PySem.W.Frag) (a : Ads) : Sp := fun vs H Q _ => ∃ (m dx p : Addr) (lm : Lm) (s t sp us : Int) (mo : Int) (g : Str) (c : Int), vs = [.ref m, .int mo, .str g, .int c] ∧ H m = some (.ins a.c_SpanMeter dx (flS p s t sp us)) ∧ LimU K H p lm s t ∧ 1 ≤ t ∧ t ≤ 1000000 ∧ ∀ H', Ex H H' → Q (.bl (!seesL lm g || decide (usedS t sp us mo + c ≤ s))) H'
def sp_SpanMeter_earliest (K : PySem.W.Frag) (a : Ads) : Sp := fun vs H Q _ => ∃ (m dx p : Addr) (lm : Lm) (s t sp us : Int) (mo : Int) (g : Str) (c : Int), vs = [.ref m, .int mo, .str g, .int c] ∧ H m = some (.ins a.c_SpanMeter dx (flS p s t sp us)) ∧ LimU K H p lm s t ∧ 1 ≤ t ∧ t ≤ 1000000 ∧ ∀ H', Ex H H' → Q (oN (if seesL lm g then earlS s t (usedS t sp us mo) c mo else some mo)) H'
def sp_SpanMeter_let (K : PySem.W.Frag) (a : Ads) : Sp := fun vs H Q _ => ∃ (m dx p : Addr) (lm : Lm) (s t sp us : Int) (mo : Int) (g : Str) (c : Int) (k : Str), vs = [.ref m, .int mo, .str g, .int c, .str k] ∧ H m = some (.ins a.c_SpanMeter dx (flS p s t sp us)) ∧ LimU K H p lm s t ∧ 1 ≤ t ∧ t ≤ 1000000 ∧ ∀ H', ExP m H H' → H' m = some (.ins a.c_SpanMeter dx (if seesL lm g then flS p s t (mo / t) (usedS t sp us mo + c) else flS p s t sp us)) → Q .non H'
def sp_BucketMeter_init (K : PySem.W.Frag) (a : Ads) : Sp := fun vs H Q _ => ∃ (m dx p : Addr) (lm : Lm) (s t : Int), vs = [.ref m, .ref p] ∧ H m = some (.ins a.c_BucketMeter dx []) ∧ LimU K H p lm s t ∧ ∀ H', ExP m H H' → H' m = some (.ins a.c_BucketMeter dx (flB p s t 0 0)) → Q .non H'
def sp_BucketMeter_missing_at (K : PySem.W.Frag) (a : Ads) : Sp := fun vs H Q _ => ∃ (m dx p : Addr) (s t sp us mo : Int), vs = [.ref m, .int mo] ∧ H m = some (.ins a.c_BucketMeter dx (flB p s t sp us)) ∧ Q (.int (missB sp us mo)) H
def sp_BucketMeter_too_much (K : PySem.W.Frag) (a : Ads) : Sp := fun vs H Q _ => ∃ (m dx p : Addr) (s t sp us mo c : Int), vs = [.ref m, .int mo, .int c] ∧ H m = some (.ins a.c_BucketMeter dx (flB p s t sp us)) ∧ 1 ≤ t ∧ t ≤ 1000000 ∧ Q (.int (missB sp us mo + t * c - s * t)) H
def sp_BucketMeter_room (K : PySem.W.Frag) (a : Ads) : Sp := fun vs H Q _ => ∃ (m dx p : Addr) (lm : Lm) (s t sp us : Int) (mo : Int) (g : Str) (c : Int), vs = [.ref m, .int mo, .str g, .int c] ∧ H m = some (.ins a.c_BucketMeter dx (flB p s t sp us)) ∧ LimU K H p lm s t ∧ 1 ≤ t ∧ t ≤ 1000000 ∧ ∀ H', Ex H H' → Q (.bl (!seesL lm g || decide (missB sp us mo + t * c - s * t ≤ 0))) H'
def sp_BucketMeter_earliest (K : PySem.W.Frag) (a : Ads) : Sp := fun vs H Q _ => ∃ (m dx p : Addr) (lm : Lm) (s t sp us : Int) (mo : Int) (g : Str) (c : Int), vs = [.ref m, .int mo, .str g, .int c] ∧ H m = some (.ins a.c_BucketMeter dx (flB p s t sp us)) ∧ LimU K H p lm s t ∧ 1 ≤ t ∧ t ≤ 1000000 ∧ ∀ H', Ex H H' → Q (oN (if seesL lm g then earlB s t (missB sp us mo) c mo else some mo)) H'
def sp_BucketMeter_let (K : PySem.W.Frag) (a : Ads) : Sp := fun vs H Q _ => ∃ (m dx p : Addr) (lm : Lm) (s t sp us : Int) (mo : Int) (g : Str) (c : Int) (k : Str), vs = [.ref m, .int mo, .str g, .int c, .str k] ∧ H m = some (.ins a.c_BucketMeter dx (flB p s t sp us)) ∧ LimU K H p lm s t ∧ 1 ≤ t ∧ t ≤ 1000000 ∧ ∀ H', ExP m H H' → H' m = some (.ins a.c_BucketMeter dx (if seesL lm g then flB p s t (missB sp us mo + t * c) mo else flB p s t sp us)) → Q .non H'
def sp_GapMeter_init (K : PySem.W.Frag) (a : Ads) : Sp := fun vs H Q _ => ∃ (m dx p : Addr) (lm : Lm) (t : Int), vs = [.ref m, .ref p] ∧ H m = some (.ins a.c_GapMeter dx []) ∧ LimV K H p lm t ∧ ∀ H', ExP m H H' → H' m = some (.ins a.c_GapMeter dx (flG p t none)) → Q .non H'
def sp_GapMeter_earliest (K : PySem.W.Frag) (a : Ads) : Sp := fun vs H Q _ => ∃ (m dx p : Addr) (lm : Lm) (t : Int) (last : Option Int) (mo : Int) (g : Str) (c : Int), vs = [.ref m, .int mo, .str g, .int c] ∧ H m = some (.ins a.c_GapMeter dx (flG p t last)) ∧ LimV K H p lm t ∧ ∀ H', Ex H H' → Q (.int (if seesL lm g then earlG t last mo else mo)) H'
def sp_GapMeter_room (K : PySem.W.Frag) (a : Ads) : Sp := fun vs H Q _ => ∃ (m dx p : Addr) (lm : Lm) (t : Int) (last : Option Int) (mo : Int) (g : Str) (c : Int), vs = [.ref m, .int mo, .str g, .int c] ∧ H m = some (.ins a.c_GapMeter dx (flG p t last)) ∧ LimV K H p lm t ∧ ∀ H', Ex H H' → Q (.bl (decide ((if seesL lm g then earlG t last mo else mo) = mo))) H'
def sp_GapMeter_let (K : PySem.W.Frag) (a : Ads) : Sp := fun vs H Q _ => ∃ (m dx p : Addr) (lm : Lm) (t : Int) (last : Option Int) (mo : Int) (g : Str) (c : Int) (k : Str), vs = [.ref m, .int mo, .str g, .int c, .str k] ∧ H m = some (.ins a.c_GapMeter dx (flG p t last)) ∧ LimV K H p lm t ∧ ∀ H', ExP m H H' → H' m = some (.ins a.c_GapMeter dx (flG p t (if seesL lm g then some mo else last))) → Q .non H'
def sp_HeldMeter_init (K : PySem.W.Frag) (a : Ads) : Sp := fun vs H Q _ => ∃ (m dx p : Addr) (lm : Lm) (s : Int), vs = [.ref m, .ref p] ∧ H m = some (.ins a.c_HeldMeter dx []) ∧ LimV K H p lm s ∧ ∀ (d : Addr) H', H d = none → ExP m H H' → MAt H' a.c_HeldMeter m dx p s d [] → Q .non H'
def sp_HeldMeter_room (K : PySem.W.Frag) (a : Ads) : Sp := fun vs H Q _ => ∃ (m dx p d : Addr) (lm : Lm) (s : Int) (es : List EH) (mo : Int) (g : Str) (c : Int), vs = [.ref m, .int mo, .str g, .int c] ∧ MAt H a.c_HeldMeter m dx p s d es ∧ LimV K H p lm s ∧ ∀ H', Ex H H' → Q (.bl ((!seesL lm g || decide (sumH es + c ≤ s)))) H'
def sp_HeldMeter_earliest (K : PySem.W.Frag) (a : Ads) : Sp := fun vs H Q _ => ∃ (m dx p d : Addr) (lm : Lm) (s : Int) (es : List EH) (mo : Int) (g : Str) (c : Int), vs = [.ref m, .int mo, .str g, .int c] ∧ MAt H a.c_HeldMeter m dx p s d es ∧ LimV K H p lm s ∧ ∀ H', Ex H H' → Q (oN (if (!seesL lm g || decide (sumH es + c ≤ s)) then some mo else none)) H'
def sp_HeldMeter_let (K : PySem.W.Frag) (a : Ads) : Sp := fun vs H Q _ => ∃ (m dx p d : Addr) (lm : Lm) (s : Int) (es : List EH) (mo : Int) (g : Str) (c : Int) (k : Str), vs = [.ref m, .int mo, .str g, .int c, .str k] ∧ MAt H a.c_HeldMeter m dx p s d es ∧ LimV K H p lm s ∧ k ∉ keysH es ∧ es.length ≤ 1000 ∧ ∀ H', ExD m d H H' → MAt H' a.c_HeldMeter m dx p s d (if seesL lm g then es ++ [(k, c)] else es) → Q .non H'
def sp_PoolMeter_init (K : PySem.W.Frag) (a : Ads) : Sp := fun vs H Q _ => ∃ (m dx p : Addr) (lm : Lm) (most : Int) (sh : List S3), vs = [.ref m, .ref p] ∧ H m = some (.ins a.c_PoolMeter dx []) ∧ LimQ K H p lm most sh ∧ ShOk sh ∧ ∀ (dC dU : Addr) H', H dC = none → H dU = none → ExP m H H' → MAtP K H' a.c_PoolMeter m dx p dC dU sh [] → Q .non H'
def sp_PoolMeter_borrowed (K : PySem.W.Frag) (a : Ads) : Sp := fun vs H Q _ => ∃ (m dx p dC dU : Addr) (lm : Lm) (most : Int) (sh : List S3) (es : List E3) (g : Str) (c : Int), vs = [.ref m, .str g, .int c] ∧ MAtP K H a.c_PoolMeter m dx p dC dU sh es ∧ LimQ K H p lm most sh ∧ ∀ H', Ex H H' → Q (.int (borP sh (fun n => if n = g then useP es n + c else useP es n))) H'
def sp_PoolMeter_room (K : PySem.W.Frag) (a : Ads) : Sp := fun vs H Q _ => ∃ (m dx p dC dU : Addr) (lm : Lm) (most : Int) (sh : List S3) (es : List E3) (mo : Int) (g : Str) (c : Int), vs = [.ref m, .int mo, .str g, .int c] ∧ MAtP K H a.c_PoolMeter m dx p dC dU sh es ∧ LimQ K H p lm most sh ∧ ∀ H', Ex H H' → Q (.bl (roomP most sh es g c)) H'
def sp_PoolMeter_earliest (K : PySem.W.Frag) (a : Ads) : Sp := fun vs H Q _ => ∃ (m dx p dC dU : Addr) (lm : Lm) (most : Int) (sh : List S3) (es : List E3) (mo : Int) (g : Str) (c : Int), vs = [.ref m, .int mo, .str g, .int c] ∧ MAtP K H a.c_PoolMeter m dx p dC dU sh es ∧ LimQ K H p lm most sh ∧ ∀ H', Ex H H' → Q (oN (if roomP most sh es g c then some mo else none)) H'
def sp_PoolMeter_let (K : PySem.W.Frag) (a : Ads) : Sp := fun vs H Q _ => ∃ (m dx p dC dU : Addr) (lm : Lm) (most : Int) (sh : List S3) (es : List E3) (mo : Int) (g : Str) (c : Int) (k : Str), vs = [.ref m, .int mo, .str g, .int c, .str k] ∧ MAtP K H a.c_PoolMeter m dx p dC dU sh es ∧ LimQ K H p lm most sh ∧ k ∉ es.map keyE ∧ es.length ≤ 1000 ∧ ∀ H', ExD dC dU H H' → MAtP K H' a.c_PoolMeter m dx p dC dU sh (if seesP sh g then es ++ [(k, (g, c))] else es) → Q .non H'
theorem asc_nodup : ∀ {zs : List Str}, Asc zs → zs.Nodup := fun h => h.imp fun {a b} hlt e => absurd (show strLt a a by rw [← e] at hlt; exact hlt) (List.lt_irrefl _)
def clsA (a : Ads) : Nat → Addr
  | 0 => a.c_WindowMeter
  | 1 => a.c_SpanMeter
  | 2 => a.c_BucketMeter
  | 3 => a.c_GapMeter
  | 4 => a.c_HeldMeter
  | _ => a.c_PoolMeter
def sp_M_room (K : PySem.W.Frag) (a : Ads) (n : Nat) : Sp := fun vs H Q _ => ∃ (m p : Addr) (F : List Addr) (l : Lm) (st : MSt4) (g : Str) (c t : Int), vs = [.ref m, .int t, .str g, .int c] ∧ kindM st = n ∧ MetAt K (clsA a) H m p F l st ∧ LmAt K H p l ∧ l.Ok ∧ ShapeM l st ∧ sizeM st ≤ 1000 ∧
  ∀ H', Ex H H' → Q (.bl (roomM l g c t st)) H'
def sp_M_earliest (K : PySem.W.Frag) (a : Ads) (n : Nat) : Sp := fun vs H Q _ => ∃ (m p : Addr) (F : List Addr) (l : Lm) (st : MSt4) (g : Str) (c t : Int), vs = [.ref m, .int t, .str g, .int c] ∧ kindM st = n ∧ MetAt K (clsA a) H m p F l st ∧ LmAt K H p l ∧ l.Ok ∧ ShapeM l st ∧ sizeM st ≤ 1000 ∧
  ∀ H', Ex H H' → Q (oN (earlM l g c t st)) H'
def sp_M_let (K : PySem.W.Frag) (a : Ads) (n : Nat) : Sp := fun vs H Q _ => ∃ (m p : Addr) (F : List Addr) (l : Lm) (st : MSt4) (g : Str) (c t : Int) (k : Str), vs = [.ref m, .int t, .str g, .int c, .str k] ∧ kindM st = n ∧ MetAt K (clsA a) H m p F l st ∧ LmAt K H p l ∧ l.Ok ∧ ShapeM l st ∧ sizeM st ≤ 1000 ∧ FreshM k st ∧
  ∀ H', ExF F H H' → MetAt K (clsA a) H' m p F l (letM l k g c t st) → (∀ D, H D ≠ none → NS H m D → NS H' m D) → Q .non H'
def S_M_room (K : PySem.W.Frag) (a : Ads) : Addr → Sp → Prop := fun C sp => ∃ st : MSt4, C = clsA a (kindM st) ∧ sp = sp_M_room K a (kindM st)
def S_M_earliest (K : PySem.W.Frag) (a : Ads) : Addr → Sp → Prop := fun C sp => ∃ st : MSt4, C = clsA a (kindM st) ∧ sp = sp_M_earliest K a (kindM st)
def S_M_let (K : PySem.W.Frag) (a : Ads) : Addr → Sp → Prop := fun C sp => ∃ st : MSt4, C = clsA a (kindM st) ∧ sp = sp_M_let K a (kindM st)
def sp_meter_for (K : PySem.W.Frag) (a : Ads) : Sp := fun vs H Q _ => ∃ (p : Addr) (l : Lm), vs = [.ref p] ∧ LmAt K H p l ∧ l.Ok ∧
  ∀ (m : Addr) (F : List Addr) H', Ex H H' → (∀ b ∈ F, H b = none) → (∀ D, H D ≠ none → ∀ o, MetAt K (clsA a) (upd H' D o) m p F l (newM l)) → MetAt K (clsA a) H' m p F l (newM l) → Q (.ref m) H'
def sp_Book_limits (K : PySem.W.Frag) (a : Ads) : Sp := fun vs H Q _ => ∃ (b : Addr) (xs : List (Addr × Lm)), vs = [.ref b] ∧ BookAt K a.c_Book H b xs ∧ ∀ p H', H p = none → Ex H H' → H' p = some (.lst (xs.map lV)) → Q (.ref p) H'
def sp_is_key (K : PySem.W.Frag) : Sp := fun vs H Q _ => ∃ z : Str, vs = [.str z] ∧ z.length ≤ 100000 ∧ ∀ H', Ex H H' → Q (.bl (isKey z)) H'
def flAn (k : Str) (mo : Int) (pn : Addr) (e : Option Int) (b : Bool) : List (Str × V) := [("key", .str k), ("moment", .int mo), ("lacking", .ref pn), ("earliest", oN e), ("is_let", .bl b)]
def AnsAt (K : PySem.W.Frag) (C : Addr) (H : Hp) (m : Addr) (k : Str) (mo : Int) (zs : List Str) (e : Option Int) : Prop := ∃ dx pn, H m = some (.ins C dx (flAn k mo pn e (decide (zs.length = 0)))) ∧ SqT K H pn (zs.map V.str)
theorem AnsAt.mono {K : PySem.W.Frag} {C : Addr} {H H' : Hp} {m : Addr} {k : Str} {mo : Int} {zs : List Str} {e : Option Int} (h : AnsAt K C H m k mo zs e) (x : Ex H H') : AnsAt K C H' m k mo zs e := by
  obtain ⟨dx, pn, h1, h2⟩ := h
  exact ⟨dx, pn, ex_at x h1, ex_sqT x h2⟩
def sp_Answer_init (K : PySem.W.Frag) (a : Ads) : Sp := fun vs H Q _ => ∃ (m dx pn : Addr) (k : Str) (mo : Int) (zs : List Str) (e : Option Int), vs = [.ref m, .str k, .int mo, .ref pn, oN e] ∧ H m = some (.ins a.c_Answer dx []) ∧ SqT K H pn (zs.map V.str) ∧
  ∀ H', ExP m H H' → AnsAt K a.c_Answer H' m k mo zs e → Q .non H'
def sp_check_request (K : PySem.W.Frag) : Sp := fun vs H Q _ => ∃ (k g : Str) (c : Int), vs = [.str k, .str g, .int c] ∧ isKey k = true ∧ isName g = true ∧ 1 ≤ c ∧ c ≤ 1000 ∧ ∀ H', Ex H H' → Q .non H'
theorem BookAt.exP {K : PySem.W.Frag} {C C2 m dx b : Addr} {H H' : Hp} {xs : List (Addr × Lm)} (h : BookAt K C H b xs) (e : ExP m H H') (hm : H m = some (.ins C2 dx [])) : BookAt K C H' b xs := by
  obtain ⟨dx1, B, h1, h2, h3, h4, h5⟩ := h
  have hb : b ≠ m := fun y => by rw [y, hm] at h1; cases h1
  have hB : B ≠ m := fun y => by rw [y, hm] at h2; cases h2
  exact ⟨dx1, B, e _ _ hb h1, e _ _ hB h2, fun x hx => (h3 x hx).tr fun q vs y => exP_sqT hm e y, h4, h5⟩
def sp_check_moment (K : PySem.W.Frag) : Sp := fun vs H Q _ => ∃ t : Int, vs = [.int t] ∧ 0 ≤ t ∧ t ≤ 1000000000 ∧ Q .non H
abbrev KprA (K : PySem.W.Frag) (a : Ads) := KprAt K (clsA a) a.c_Keeper
def sp_Answer_parts (K : PySem.W.Frag) (a : Ads) : Sp := fun vs H Q _ => ∃ (m : Addr) (k : Str) (mo : Int) (zs : List Str) (e : Option Int), vs = [.ref m] ∧ AnsAt K a.c_Answer H m k mo zs e ∧ ∀ (p pn : Addr) H', Ex H H' → SqT K H' p [.str k, .int mo, .ref pn, oN e] → SqT K H' pn (zs.map V.str) → Q (.ref p) H'
def sp_Keeper_init (K : PySem.W.Frag) (a : Ads) : Sp := fun vs H Q _ => ∃ (kp dx b : Addr) (xs : List (Addr × Lm)), vs = [.ref kp, .ref b] ∧ H kp = some (.ins a.c_Keeper dx []) ∧ BookAt K a.c_Book H b xs ∧
  ∀ (z : KAd) (ms : List MRec) H', z.kp = kp → z.b = b → ExP kp H H' → (∀ x ∈ FK z ms, x ≠ kp → H x = none) → KprA K a H' z ms none [] [] → ms.map (·.l) = xs.map (·.2) → (∀ r ∈ ms, r.st = newM r.l) → Q .non H'
def sp_Keeper__check_next (K : PySem.W.Frag) (a : Ads) : Sp := fun vs H Q _ => ∃ (z : KAd) (ms : List MRec) (mo : Option Int) (as : List (Addr × ARec)) (rs : List Str) (t : Int), vs = [.ref z.kp, .int t] ∧ KprA K a H z ms mo as rs ∧ (∀ m, mo = some m → m ≤ t) ∧ Q .non H
def sp_Keeper__let (K : PySem.W.Frag) (a : Ads) : Sp := fun vs H Q _ => ∃ (z : KAd) (ms : List MRec) (mo : Option Int) (as : List (Addr × ARec)) (rs : List Str) (k g : Str) (c t : Int), vs = [.ref z.kp, .str k, .str g, .int c, .int t] ∧ KprA K a H z ms mo as rs ∧ ReadyM ms k ∧ ms.length ≤ 8 ∧
  ∀ H', ExF (Fs ms) H H' → KprA K a H' z (letK ms k g c t) mo as rs → (∀ D, H D ≠ none → NSs H ms D → NSs H' ms D) → Q .non H'
def sp_Keeper__earliest (K : PySem.W.Frag) (a : Ads) : Sp := fun vs H Q _ => ∃ (z : KAd) (ms : List MRec) (mo : Option Int) (as : List (Addr × ARec)) (rs : List Str) (k g : Str) (c t : Int), vs = [.ref z.kp, .str g, .int c, .int t] ∧ KprA K a H z ms mo as rs ∧ ReadyM ms k ∧ 1 ≤ ms.length ∧ ms.length ≤ 8 ∧
  ∀ (E : Option Int) H', Ex H H' → BestOf (earlK ms g c t) E → Q (oN E) H'
def sp_Keeper_knows (K : PySem.W.Frag) (a : Ads) : Sp := fun vs H Q _ => ∃ (z : KAd) (ms : List MRec) (mo : Option Int) (as : List (Addr × ARec)) (rs : List Str) (k : Str), vs = [.ref z.kp, .str k] ∧ KprA K a H z ms mo as rs ∧ Q (.bl (decide (k ∈ as.map fun x => x.2.k))) H
def sp_Keeper_ask (K : PySem.W.Frag) (a : Ads) : Sp := fun vs H Q _ => ∃ (z : KAd) (ms : List MRec) (mo : Option Int) (as : List (Addr × ARec)) (rs : List Str) (pr : Addr) (k g : Str) (c t : Int), vs = [.ref z.kp, .ref pr, .int t] ∧ KprA K a H z ms mo as rs ∧ SqT K H pr [.str k, .str g, .int c] ∧ isKey k = true ∧ isName g = true ∧ 1 ≤ c ∧ c ≤ 1000 ∧ 0 ≤ t ∧ t ≤ 1000000000 ∧ (∀ m, mo = some m → m ≤ t) ∧ k ∉ (as.map fun x => x.2.k) ∧ as.length ≤ 900 ∧ ReadyM ms k ∧ 1 ≤ ms.length ∧ ms.length ≤ 8 ∧
  ∀ (E : Option Int) (m dd : Addr) H', ExF (FK z ms) H H' → BestOf (earlK ms g c t) E → AnsAt K a.c_Answer H' m k t (lackK ms g c t) E → KprA K a H' z (if lackK ms g c t = [] then letK ms k g c t else ms) (some t) (as ++ [(dd, ⟨k, g, c, t, lackK ms g c t, E⟩)]) rs → (∀ D, H D ≠ none → NSs H ms D → NSs H' ms D) → Q (.ref m) H'
def sp_Keeper__check_known (K : PySem.W.Frag) (a : Ads) : Sp := fun vs H Q E => ∃ (z : KAd) (ms : List MRec) (mo : Option Int) (as : List (Addr × ARec)) (rs : List Str) (k : Str), vs = [.ref z.kp, .str k] ∧ KprA K a H z ms mo as rs ∧
  ((k ∈ (as.map fun x => x.2.k) ∧ Q .non H) ∨ (k ∉ (as.map fun x => x.2.k) ∧ ∀ d H', Ex H H' → H d = none → H' d = some (.xd [("key", .str k)]) → E (.ref a.f_UnknownKey) (some d) H'))
def sp_Keeper_answer_of (K : PySem.W.Frag) (a : Ads) : Sp := fun vs H Q E => ∃ (z : KAd) (ms : List MRec) (mo : Option Int) (as : List (Addr × ARec)) (rs : List Str) (k : Str), vs = [.ref z.kp, .str k] ∧ KprA K a H z ms mo as rs ∧ (∀ x ∈ as, x.2.lk.length ≤ 1000) ∧
  ((k ∈ (as.map fun x => x.2.k) ∧ ∀ (x : Addr × ARec) (m : Addr) H', Ex H H' → x ∈ as → x.2.k = k → AnsAt K a.c_Answer H' m k x.2.t x.2.lk x.2.e → Q (.ref m) H') ∨ (k ∉ (as.map fun x => x.2.k) ∧ ∀ d H', Ex H H' → H d = none → H' d = some (.xd [("key", .str k)]) → E (.ref a.f_UnknownKey) (some d) H'))
def sp__law_looks (K : PySem.W.Frag) : Sp := fun vs H Q _ => ∃ (p : Addr) (l : Lm) (g : Str), vs = [.ref p, .str g] ∧ LmAt K H p l ∧ l.Ok ∧ ∀ H', Ex H H' → Q (.bl (seesL l g)) H'
def qV (x : Addr × Q4) : V := .ref x.1
def QsAt (K : PySem.W.Frag) (H : Hp) (xs : List (Addr × Q4)) : Prop := ∀ x ∈ xs, SqT K H x.1 [.str x.2.1, .str x.2.2.1, .int x.2.2.2.1, .int x.2.2.2.2]
theorem QsAt.mono {K : PySem.W.Frag} {H H' : Hp} {xs : List (Addr × Q4)} (h : QsAt K H xs) (e : Ex H H') : QsAt K H' xs := fun x hx => ex_sqT e (h x hx)
theorem QsAt.sub {K : PySem.W.Frag} {H : Hp} {xs ys : List (Addr × Q4)} (h : QsAt K H xs) (s : ∀ x ∈ ys, x ∈ xs) : QsAt K H ys := fun x hx => h x (s x hx)
def sp__law_pool_room (K : PySem.W.Frag) : Sp := fun vs H Q _ => ∃ (p ph : Addr) (m : Int) (sh : List Shr) (hd : List (Addr × Q4)) (g : Str) (c : Int), vs = [.ref p, .ref ph, .str g, .int c] ∧ NuAt K H p (.pool m sh) ∧ sh.length ≤ 8 ∧ SqL K H ph (hd.map qV) ∧ QsAt K H hd ∧ hd.length ≤ 500 ∧
  ∀ H', Ex H H' → Q (.bl (poolR m sh (hd.map (·.2)) g c)) H'
def sp__law_room (K : PySem.W.Frag) : Sp := fun vs H Q _ => ∃ (p pq pg pr : Addr) (l : Lm) (qs : List (Addr × Q4)) (gone : List Str) (k g : Str) (c mo : Int), vs = [.ref p, .ref pq, .ref pg, .ref pr, .int mo] ∧ LmAt K H p l ∧ l.Ok ∧ SqL K H pq (qs.map qV) ∧ QsAt K H qs ∧ qs.length ≤ 500 ∧ SqL K H pg (gone.map V.str) ∧ gone.length ≤ 500 ∧ SqT K H pr [.str k, .str g, .int c] ∧
  ∀ H', Ex H H' → Q (.bl (roomB l (qs.map (·.2)) gone g c mo)) H'
def sp__law_lacking (K : PySem.W.Frag) : Sp := fun vs H Q _ => ∃ (pL pq pg pr : Addr) (ls : List (Addr × Lm)) (qs : List (Addr × Q4)) (gone : List Str) (k g : Str) (c mo : Int), vs = [.ref pL, .ref pq, .ref pg, .ref pr, .int mo] ∧ SqL K H pL (ls.map lV) ∧ LmsAt K H ls ∧ (∀ x ∈ ls, x.2.Ok) ∧ ls.length ≤ 8 ∧ SqL K H pq (qs.map qV) ∧ QsAt K H qs ∧ qs.length ≤ 500 ∧ SqL K H pg (gone.map V.str) ∧ gone.length ≤ 500 ∧ SqT K H pr [.str k, .str g, .int c] ∧
  ∀ (p : Addr) H', Ex H H' → SqT K H' p ((lackOf ls (qs.map (·.2)) gone g c mo).map V.str) → Q (.ref p) H'
def sp__law_names (K : PySem.W.Frag) : Sp := fun vs H Q _ => ∃ n o m : Int, vs = [.int n, .int o, .int m] ∧ 0 ≤ n ∧ n ≤ 1008 ∧ 0 ≤ o ∧ o ≤ 1008 ∧ 0 ≤ m ∧ m ≤ 8 ∧ ∀ (p : Addr) (zs : List Str) H', H p = none → Ex H H' → H' p = some (.lst (zs.map V.str)) → NamesOk zs → (zs.length : Int) = m → Q (.ref p) H'
def sp__law_keys (K : PySem.W.Frag) : Sp := fun vs H Q _ => ∃ n o m : Int, vs = [.int n, .int o, .int m] ∧ 0 ≤ n ∧ n ≤ 1008 ∧ 0 ≤ o ∧ o ≤ 1008 ∧ 0 ≤ m ∧ m ≤ 36 ∧ ∀ (p : Addr) (zs : List Str) H', H p = none → Ex H H' → H' p = some (.lst (zs.map V.str)) → KeysOk zs → (zs.length : Int) = m → Q (.ref p) H'
def sp__law_group_names (K : PySem.W.Frag) : Sp := fun vs H Q _ => ∃ (l : Addr) (ns : List Int), vs = [.ref l] ∧ SqL K H l (ns.map V.int) ∧ In9 ns ∧ 2 ≤ ns.length ∧ ∀ (p : Addr) (gs : List Str) H', H p = none → Ex H H' → H' p = some (.lst (gs.map V.str)) → NamesOk gs → 3 ≤ gs.length → gs.length ≤ 8 → Q (.ref p) H'
def sp__law_shares (K : PySem.W.Frag) : Sp := fun vs H Q _ => ∃ (l : Addr) (ns : List Int) (at_ : Int) (pg : Addr) (gs : List Str), vs = [.ref l, .int at_, .ref pg] ∧ SqL K H l (ns.map V.int) ∧ In9 ns ∧ 0 ≤ at_ ∧ at_ + 3 ≤ ns.length ∧ SqL K H pg (gs.map V.str) ∧ NamesOk gs ∧ 3 ≤ gs.length ∧ gs.length ≤ 8 ∧
  ∀ (q : Addr) (xs : List (Addr × Shr)) H', Ex H H' → SqT K H' q (xs.map fun x => V.ref x.1) → (∀ x ∈ xs, SqT K H' x.1 [.str x.2.1, .int x.2.2.1, .int x.2.2.2]) → ShrsOk (xs.map (·.2)) → Q (.ref q) H'
def sp__law_limit (K : PySem.W.Frag) : Sp := fun vs H Q _ => ∃ (l : Addr) (ns : List Int) (nm : Str) (pg : Addr) (gs : List Str), vs = [.ref l, .int 0, .str nm, .ref pg] ∧ SqL K H l (ns.map V.int) ∧ In9 ns ∧ ns.length = 9 ∧ isName nm = true ∧ SqL K H pg (gs.map V.str) ∧ NamesOk gs ∧ 3 ≤ gs.length ∧ gs.length ≤ 8 ∧
  ∀ (p : Addr) (l : Lm) H', Ex H H' → LmAt K H' p l → l.Ok → l.nm = nm → Q (.ref p) H'
def sp__law_limits (K : PySem.W.Frag) : Sp := fun vs H Q _ => ∃ (l : Addr) (ns : List Int) (at_ : Int) (pg : Addr) (gs : List Str), vs = [.ref l, .int at_, .ref pg] ∧ SqL K H l (ns.map V.int) ∧ In9 ns ∧ 0 ≤ at_ ∧ at_ + 39 ≤ ns.length ∧ ns.length ≤ 1000 ∧ SqL K H pg (gs.map V.str) ∧ NamesOk gs ∧ 3 ≤ gs.length ∧ gs.length ≤ 8 ∧
  ∀ (p : Addr) (xs : List (Addr × Lm)) H', H p = none → Ex H H' → H' p = some (.lst (xs.map lV)) → LmsAt K H' xs → (∀ x ∈ xs, x.2.Ok) → 1 ≤ xs.length → xs.length ≤ 8 → (xs.map lN).Nodup → Q (.ref p) H'
def sp__law_cost (K : PySem.W.Frag) : Sp := fun vs H Q _ => ∃ n : Int, vs = [.int n] ∧ 0 ≤ n ∧ n ≤ 10000 ∧ ∀ c : Int, 1 ≤ c → c ≤ 1000 → Q (.int c) H
def sp__law_step (K : PySem.W.Frag) : Sp := fun vs H Q _ => ∃ n : Int, vs = [.int n] ∧ 0 ≤ n ∧ n ≤ 1008 ∧ ∀ (c : Int) H', Ex H H' → 0 ≤ c → c ≤ 1000002 → Q (.int c) H'
def sp__law_start (K : PySem.W.Frag) : Sp := fun vs H Q _ => ∃ n o : Int, vs = [.int n, .int o] ∧ 0 ≤ n ∧ n ≤ 1008 ∧ 0 ≤ o ∧ o ≤ 1008 ∧ ∀ c : Int, 0 ≤ c → c ≤ 1000000000 → Q (.int c) H
def sp__law_after (K : PySem.W.Frag) : Sp := fun vs H Q _ => ∃ m n : Int, vs = [.int m, .int n] ∧ 0 ≤ n ∧ n ≤ 1008 ∧ 0 ≤ m ∧ m ≤ 1000000000 ∧ ∀ (c : Int) H', Ex H H' → m ≤ c → c ≤ 1000000000 → Q (.int c) H'
def sp__law_is_integer (K : PySem.W.Frag) : Sp := fun vs H Q _ => ∃ i : Int, vs = [.int i] ∧ ∀ H', Ex H H' → Q (.bl true) H'
def sp__law_is_never (K : PySem.W.Frag) : Sp := fun vs H Q _ => ∃ (pL pq pg pr : Addr) (ls : List (Addr × Lm)) (qs : List (Addr × Q4)) (gone : List Str) (k g : Str) (c mo : Int), vs = [.ref pL, .ref pq, .ref pg, .ref pr, .int mo] ∧ SqL K H pL (ls.map lV) ∧ LmsAt K H ls ∧ (∀ x ∈ ls, x.2.Ok) ∧ ls.length ≤ 8 ∧ SqL K H pq (qs.map qV) ∧ QsAt K H qs ∧ qs.length ≤ 500 ∧ SqL K H pg (gone.map V.str) ∧ gone.length ≤ 500 ∧ SqT K H pr [.str k, .str g, .int c] ∧
  ∀ H', Ex H H' → Q (.bl (neverB ls (qs.map (·.2)) gone g c)) H'
def sp__law_is_earliest (K : PySem.W.Frag) : Sp := fun vs H Q _ => ∃ (pL pq pg pr : Addr) (ls : List (Addr × Lm)) (qs : List (Addr × Q4)) (gone : List Str) (k g : Str) (c mo : Int) (e : Option Int), vs = [oN e, .ref pL, .ref pq, .ref pg, .ref pr, .int mo] ∧ SqL K H pL (ls.map lV) ∧ LmsAt K H ls ∧ (∀ x ∈ ls, x.2.Ok) ∧ ls.length ≤ 8 ∧ SqL K H pq (qs.map qV) ∧ QsAt K H qs ∧ qs.length ≤ 500 ∧ SqL K H pg (gone.map V.str) ∧ gone.length ≤ 500 ∧ SqT K H pr [.str k, .str g, .int c] ∧
  Past (qs.map (·.2)) mo ∧ sum4 (qs.map (·.2)) ≤ 1000000 ∧ 0 ≤ c ∧ c ≤ 1000 ∧ ∀ (r : Bool) H', Ex H H' → (r = true ↔ IsSoon (lackB ls (qs.map (·.2)) gone g c) mo e) → Q (.bl r) H'
def sp__law_is_answer (K : PySem.W.Frag) (a : Ads) : Sp := fun vs H Q _ => ∃ (m pL pq pg pr : Addr) (ls : List (Addr × Lm)) (qs : List (Addr × Q4)) (gone : List Str) (k g : Str) (c mo : Int) (e : Option Int), vs = [.ref m, .ref pL, .ref pq, .ref pg, .ref pr, .int mo] ∧ AnsAt K a.c_Answer H m k mo (lackOf ls (qs.map (·.2)) gone g c mo) e ∧ PyData.strOk k = true ∧ k.length ≤ 20 ∧ SqL K H pL (ls.map lV) ∧ LmsAt K H ls ∧ (∀ x ∈ ls, x.2.Ok) ∧ ls.length ≤ 8 ∧ SqL K H pq (qs.map qV) ∧ QsAt K H qs ∧ qs.length ≤ 500 ∧ SqL K H pg (gone.map V.str) ∧ gone.length ≤ 500 ∧ SqT K H pr [.str k, .str g, .int c] ∧
  Past (qs.map (·.2)) mo ∧ sum4 (qs.map (·.2)) ≤ 1000000 ∧ 0 ≤ c ∧ c ≤ 1000 ∧ IsSoon (lackB ls (qs.map (·.2)) gone g c) mo e ∧ ∀ H', Ex H H' → Q (.bl true) H'
def sp__law_is_unknown (K : PySem.W.Frag) (a : Ads) : Sp := fun vs H Q _ => ∃ (z : KAd) (ms : List MRec) (mo : Option Int) (as : List (Addr × ARec)) (rs : List Str) (k : Str), vs = [.ref z.kp, .str k] ∧ KprA K a H z ms mo as rs ∧ k ∉ (as.map fun x => x.2.k) ∧ (∀ x ∈ as, x.2.lk.length ≤ 1000) ∧ ∀ H', Ex H H' → Q (.bl true) H'
def sp_law (K : PySem.W.Frag) : Sp := fun vs H Q _ => ∃ (l : Addr) (xs : List Int), vs = [.ref l] ∧ SqL K H l (xs.map V.int) ∧ xs.length ≤ 63 ∧ ∀ H', Q (.bl true) H'
section
variable {P : Program} {w : World} {K : PySem.W.Frag} {mg : Str → Option Value} {base : Heap} {a : Ads}
theorem ok__law_row (T : Txt P w K mg a) : FnOk P w K mg base CX0 1 a.f__law_row a.d__law_row ["_law_cell", "_law_many"] (sp__law_row K) := by
  refine T.F__law_row.ok sc__law_row (fun vs H Q E h => ?len) (fun cdv A outer s H vs Q E hr h => ?body)
  case len => obtain ⟨c, m, rfl, _⟩ := h; rfl
  case body =>
    obtain ⟨c, m, rfl, hm0, hm1, q⟩ := h
    refine ⟨_, (pss_cons (ps_set (i := 2) sc__law_row.nd rfl (Or.inl rfl) (pe_lst pa_nil))
  (pss_cons (ps_set (i := 3) sc__law_row.nd rfl (Or.inl rfl) pe_int)
  (pss_cons (ps_if (pt_cmpR op_ge (pe_callB call_absN (by rfl) T.z_abs (by decide +kernel) (pa_cons (pv 0) pa_nil)) (pe_op op_pow pe_int pe_int) (nomark _))
   (pss_one (ps_set (i := 3) sc__law_row.nd rfl (Or.inl rfl) (pe_callB call_absN (by rfl) T.z_abs (by decide +kernel) (pa_cons (pv 0) pa_nil))))
   pss_nil)
  (pss_cons (ps_set (i := 4) sc__law_row.nd rfl (Or.inl rfl) (pe_op op_mod (pe_callTy call_intI (by rfl) T.z_int (by decide +kernel) (pa_cons (pe_callB call_absN (by rfl) T.z_abs (by decide +kernel) (pa_cons (pv 0) pa_nil)) pa_nil)) pe_int))
  (pss_cons (ps_for PassesOwn.never rfl (pi_range1 (by rfl) T.z_range (pa_cons (pv 1) pa_nil)) (pg_name (i := 5) sc__law_row.nd rfl (Or.inl rfl))
   (pss_cons (ps_set (i := 4) sc__law_row.nd rfl (Or.inl rfl) (pe_op op_mod (pe_callTy call_intI (by rfl) T.z_int (by decide +kernel) (pa_cons (pe_op op_add (pe_op op_mul (pe_op op_add (pv 4) pe_int) pe_int) (pe_op op_mul pe_int (pv 5))) pa_nil)) pe_int))
  (pss_one (ps_if (pt_cmpR op_gt (pv 3) pe_int (nomark _))
   (pss_cons (ps_expr (pe_bmK (K := K) rfl PySem.F.plainAttrs_list PySem.F.slot_list_append PySem.F.type_list_append mt_append (pv 2) (pa_cons (pe_op op_mod (pe_callTy call_intI (by rfl) T.z_int (by decide +kernel) (pa_cons (pv 3) pa_nil)) pe_int) pa_nil)))
  (pss_one (ps_set (i := 3) sc__law_row.nd rfl (Or.inl rfl) (pe_op op_fdiv (pv 3) pe_int))))
   (pss_one (ps_expr (pe_bmK (K := K) rfl PySem.F.plainAttrs_list PySem.F.slot_list_append PySem.F.type_list_append mt_append (pv 2) (pa_cons (pe_op op_mod (pe_callTy call_intI (by rfl) T.z_int (by decide +kernel) (pa_cons (pe_op op_fdiv (pv 4) pe_int) pa_nil)) pe_int) pa_nil))))))))
  (pss_one (ps_ret (pv 2)))))))), ?_⟩
    try dsimp only [cxOf, Cx.nox]
    walk_at "go"
    rename_i p hp
    refine w_ifset (fun x => ∃ r : Int, x = .int r ∧ 0 ≤ r) (fun _ R hR => ?_) (fun _ => ⟨_, rfl, 0, rfl, by omega⟩) ?_
    · walk_at "go"
      exact hR _ _ ⟨_, rfl, by split <;> omega⟩ (Evl.Ex.refl _)
    · rintro _ H0 ⟨r, rfl, hr0⟩ e0
      walk_at "go"
      refine l_it walk_range (fun i σ' H' => ∃ (r st : Int) (v5 : Option V) (ns : List Int), σ' = [some (.int c), some (.int m), some (.ref p), some (.int r), some (.int st), v5] ∧ 0 ≤ r ∧ 0 ≤ st ∧ st < 2147483647 ∧ Ex H H' ∧ H' p = some (.lst (ns.map V.int)) ∧ ns.length = i ∧ In9 ns)
        ⟨r, _, none, [], rfl, hr0, by omega, by omega, by walk_at "ex", e0 _ _ upd_same, rfl, In9.nil⟩ (fun _ _ _ _ _ => trivial) ?_ ?_
      · rintro i x σ' H1 H2 hi ⟨r, st, v5, ns, rfl, hr0, hst0, hst1, hE, hL, hlen, h9⟩ ⟨rfl, rfl⟩
        walk_at "go"
        have e0 : 0 ≤ (st + 1) * 48271 + 69621 * (0 + (i : Int)) := by omega
        refine w_dec (fun h => ?_) (fun h => ?_)
        · walk_at "go"
          exact ⟨_, _, _, ns ++ [r % 1009], rfl, by omega, Int.emod_nonneg _ (by decide), Int.emod_lt_of_pos _ (by decide), Evl.Ex.mut hE hp, by rw [upd_same, map_snoc], by simp [hlen], h9.snoc (Int.emod_nonneg _ (by decide)) (Int.emod_lt_of_pos _ (by decide))⟩
        · walk_at "go"
          exact ⟨_, _, _, ns ++ [_], rfl, hr0, Int.emod_nonneg _ (by decide), Int.emod_lt_of_pos _ (by decide), Evl.Ex.mut hE hp, by rw [upd_same, map_snoc], by simp [hlen], h9.snoc (Int.emod_nonneg _ (by decide)) (Int.emod_lt_of_pos _ (by decide))⟩
      · rintro σ' H1 ⟨r, st, v5, ns, rfl, hr0, hst0, hst1, hE, hL, hlen, h9⟩
        walk_at "go"
        exact q p H1 ns hp hE hL (by omega) h9
theorem ok__law_numbers (T : Txt P w K mg a) : FnOk P w K mg base CX0 2 a.f__law_numbers a.d__law_numbers ["_law_script", "_law_many"] (sp__law_numbers K) := by
  refine T.F__law_numbers.ok sc__law_numbers (fun vs H Q E h => ?len) (fun cdv A outer s H vs Q E hr h => ?body)
  case len => obtain ⟨l, xs, m, rfl, _⟩ := h; rfl
  case body =>
    obtain ⟨l, xs, m, rfl, hS, hx, hm0, hm1, q⟩ := h
    refine ⟨_, (pss_cons (ps_set (i := 2) sc__law_numbers.nd rfl (Or.inl rfl) (pe_slice (sl_listK (K := K) rfl) (pv 0) po_none (po_some pe_int)))
  (pss_cons (ps_set (i := 3) sc__law_numbers.nd rfl (Or.inl rfl) (pe_op op_add pe_int (pe_op op_fdiv (pv 1) (pe_callB (call_max2N rfl) (by rfl) T.z_max (by decide +kernel) (pa_cons pe_int (pa_cons (pe_callB (call_lenK (K := K) rfl) (by rfl) T.z_len (by decide +kernel) (pa_cons (pv 2) pa_nil)) pa_nil))))))
  (pss_cons (ps_set (i := 4) sc__law_numbers.nd rfl (Or.inl rfl) (pe_lst pa_nil))
  (pss_cons (ps_for PassesOwn.never rfl (pi_listK (K := K) rfl (pv 2)) (pg_name (i := 5) sc__law_numbers.nd rfl (Or.inl rfl))
   (pss_one (ps_for PassesOwn.never rfl (pi_listK (K := K) rfl (pe_call (ok__law_row T) (hr.mono (by decide)) (by rfl) T.g__law_row T.F__law_row.kp T.b__law_row .nil pass0 (pa_cons (pv 5) (pa_cons (pv 3) pa_nil)))) (pg_name (i := 6) sc__law_numbers.nd rfl (Or.inl rfl))
   (pss_one (ps_expr (pe_bmK (K := K) rfl PySem.F.plainAttrs_list PySem.F.slot_list_append PySem.F.type_list_append mt_append (pv 4) (pa_cons (pv 6) pa_nil)))))))
  (pss_cons (ps_while PassesOwn.never (pt_cmpR op_lt (pe_callB (call_lenK (K := K) rfl) (by rfl) T.z_len (by decide +kernel) (pa_cons (pv 4) pa_nil)) (pv 1) (nomark _))
   (pss_one (ps_expr (pe_bmK (K := K) rfl PySem.F.plainAttrs_list PySem.F.slot_list_append PySem.F.type_list_append mt_append (pv 4) (pa_cons pe_int pa_nil)))))
  (pss_one (ps_ret (pe_slice (sl_listK (K := K) rfl) (pv 4) po_none (po_some (pv 1)))))))))), ?_⟩
    try dsimp only [cxOf, Cx.nox]
    walk_at "go"
    rename_i p hp
    have e1 : cutV (xs.map V.int) none (some 63) = xs.map V.int := by
      rw [cutV_to _ (by decide)]
      exact List.take_of_length_le (by rw [List.length_map]; exact hx)
    simp only [e1, List.length_map]
    have hd : 1 ≤ (if (xs.length : Int) > 1 then (xs.length : Int) else 1) ∧ (if (xs.length : Int) > 1 then (xs.length : Int) else 1) ≤ 63 := by split <;> omega
    generalize (if (xs.length : Int) > 1 then (xs.length : Int) else 1) = d at hd ⊢
    have hq0 : 0 ≤ m / d := Int.ediv_nonneg hm0 (by omega)
    have hq1 : m / d ≤ m := Int.ediv_le_self d hm0
    walk_at "go"
    rename_i pn hpn
    have npp : p ≠ pn := fun e => by rw [← e, upd_same] at hpn; cases hpn
    have hpn0 : H pn = none := by rw [upd_ne (Ne.symm npp)] at hpn; exact hpn
    refine l_it (walk_list (xs := xs.map V.int)) (fun i σ' H' => ∃ (v5 v6 : Option V) (ns : List Int), σ' = [some (.ref l), some (.int m), some (.ref p), some (.int (1 + m / d)), some (.ref pn), v5, v6] ∧ Ex H H' ∧ H' p = some (.lst (xs.map V.int)) ∧ H' pn = some (.lst (ns.map V.int)) ∧ ns.length ≤ 9001 * i ∧ In9 ns)
      ⟨none, none, [], rfl, by walk_at "ex", by rw [upd_ne npp, upd_same], upd_same, by simp, In9.nil⟩ (fun i σ' H' _ ⟨_, _, _, _, _, h, _⟩ => .inl (.inl h)) ?_ ?_
    · rintro i x σ' H1 H2 hi ⟨v5, v6, ns, rfl, hE, hP, hN, hlen, h9⟩ ⟨rfl, hxi⟩
      rw [List.length_map] at hi
      obtain ⟨c, rfl⟩ : ∃ c, x = V.int c := by
        rw [List.getElem?_map] at hxi
        cases e : xs[i]? with
        | none => rw [e] at hxi; cases hxi
        | some z => rw [e] at hxi; exact ⟨z, (Option.some.inj hxi).symm⟩
      walk_at "go"
      refine ⟨c, 1 + m / d, rfl, by omega, by omega, fun p' H3 ns' hp' hE' hL' hlen' h9' => ?_⟩
      walk_at "go"
      have np : p ≠ p' := ne_of_none hP hp'
      have nn : pn ≠ p' := ne_of_none hN hp'
      refine l_it (walk_list (xs := ns'.map V.int)) (fun j σ' H' => ∃ (v6 : Option V) (ns2 : List Int), σ' = [some (.ref l), some (.int m), some (.ref p), some (.int (1 + m / d)), some (.ref pn), some (.int c), v6] ∧ Ex H H' ∧ H' p = some (.lst (xs.map V.int)) ∧ H' p' = some (.lst (ns'.map V.int)) ∧ H' pn = some (.lst (ns2.map V.int)) ∧ ns2.length = ns.length + j ∧ In9 ns2)
        ⟨v6, ns, rfl, by walk_at "ex", by walk_at "at", by walk_at "at", by walk_at "at", rfl, h9⟩ (fun i σ' H' _ ⟨_, _, _, _, _, h, _⟩ => .inl (.inl h)) ?_ ?_
      · rintro j x σ' H4 H5 hj ⟨v6, ns2, rfl, hE, hP, hP', hN, hlen2, h92⟩ ⟨rfl, hxj⟩
        rw [List.length_map] at hj
        obtain ⟨y, hy, rfl⟩ : ∃ y, y ∈ ns' ∧ x = V.int y := by
          rw [List.getElem?_map] at hxj
          cases e : ns'[j]? with
          | none => rw [e] at hxj; cases hxj
          | some z => rw [e] at hxj; exact ⟨z, List.mem_of_getElem? e, (Option.some.inj hxj).symm⟩
        walk_at "go"
        exact ⟨_, ns2 ++ [y], rfl, Evl.Ex.mut hE hpn0, by rw [upd_ne npp]; exact hP, by rw [upd_ne (Ne.symm nn)]; exact hP', by rw [upd_same, map_snoc], by simp [hlen2]; omega, h92.snoc (h9' y hy).1 (h9' y hy).2⟩
      · rintro σ' H4 ⟨v6, ns2, rfl, hE, hP, hP', hN, hlen2, h92⟩
        rw [List.length_map] at hlen2
        exact ⟨_, v6, ns2, rfl, hE, hP, hN, by omega, h92⟩
    · rintro σ' H1 ⟨v5, v6, ns, rfl, hE, hP, hN, hlen, h9⟩
      rw [List.length_map] at hlen
      walk_at "go"
      refine l_while (fun k σ' H' => ∃ ns2 : List Int, σ' = [some (.ref l), some (.int m), some (.ref p), some (.int (1 + m / d)), some (.ref pn), v5, v6] ∧ Ex H H' ∧ H' pn = some (.lst (ns2.map V.int)) ∧ ns2.length ≤ 9001 * 63 + 9000 ∧ In9 ns2 ∧ k = 9000 - ns2.length) _ ⟨ns, rfl, hE, hN, by omega, h9, rfl⟩ ?_
      rintro k σ' H2 ⟨ns2, rfl, hE, hN, hlen2, h92, rfl⟩
      refine ⟨decide ((ns2.length : Int) < m), fun QB hQ => ?_, fun hb => ?_, fun hb => ?_⟩
      · walk_at "go"
        rw [List.length_map]
        exact hQ
      · have hb' := of_decide_eq_true hb
        walk_at "go"
        exact ⟨_, by rw [List.length_append, List.length_singleton]; omega, ns2 ++ [0], rfl, Evl.Ex.mut hE hpn0, by rw [upd_same, map_snoc], by rw [List.length_append, List.length_singleton]; omega, h92.snoc (by decide) (by decide), rfl⟩
      · have hb' := of_decide_eq_false hb
        walk_at "go"
        rename_i pr hpr
        refine q pr _ (ns2.take m.toNat) (ex_free hE hpr) (by walk_at "ex") (by rw [upd_same, cutV_to _ hm0, List.map_take]) (by rw [List.length_take]; omega) (fun n hn => h92 n (List.mem_of_mem_take hn))
theorem ok_is_name (T : Txt P w K mg a) : FnOk P w K mg base CX0 1 a.f_is_name a.d_is_name ["text"] (sp_is_name K) := by
  refine T.F_is_name.ok sc_is_name (fun vs H Q E h => ?len) (fun cdv A outer s H vs Q E hr h => ?body)
  case len => obtain ⟨z, rfl, _⟩ := h; rfl
  case body =>
    obtain ⟨z, rfl, hz, q⟩ := h
    refine ⟨_, (pss_one (ps_ret (pe_and (pe_chain op_le op_le pe_int (pe_callB call_lenSN (by rfl) T.z_len (by decide +kernel) (pa_cons (pv 0) pa_nil)) pe_int) (pe_one (pe_callB (cr_allK (K := K) rfl rfl) (by rfl) T.z_all (by decide +kernel) (pa_cons (pe_lc (own := [("letter", 1)]) (g := gName 1) (tt := tYes) rfl sc_is_name.nd (pi_str (pv 0)) (blkOk_by (own := [("letter", 1)]) (N := ["text", "letter"]) (sc := defScope s_is_name) (by decide +kernel)) (fun _ _ _ _ _ => (pg_name (i := 1) sc_is_name.nd rfl (Or.inl rfl))) (fun _ _ _ _ _ => pts_nil) (fun _ _ _ _ _ => (pe_cmpR op_inSN (pv 1) (pe_globE T.c_LETTERS (by rfl)) rfl))) pa_nil)))))), ?_⟩
    try dsimp only [cxOf, Cx.nox]
    walk_at "go"
    refine w_dec (fun h1 => ?_) (fun h1 => ?_)
    · walk_at "go"
      refine w_dec (fun h2 => ?_) (fun h2 => ?_)
      · walk_at "go"
        refine lc_str (fun c => .bl (inLet c)) (by omega) (fun c hc H1 e1 R hR => ?_) (fun p H' hp hE hL => ?_)
        · walk_at "go"
          exact hR _ (Evl.Ex.refl _)
        · walk_at "go"
          have e : isName z = (tl z).all fun c => inLet c := by
            unfold isName
            rw [decide_eq_true h1, decide_eq_true h2, Bool.true_and, Bool.true_and]
          have q1 := q H' hE
          rw [e] at q1
          exact q1
      · walk_at "go"
        have e : isName z = false := by
          unfold isName
          rw [decide_eq_false h2, Bool.and_false, Bool.false_and]
        have q1 := q H (Evl.Ex.refl _)
        rw [e] at q1
        exact q1
    · walk_at "go"
      have e : isName z = false := by
        unfold isName
        rw [decide_eq_false h1, Bool.false_and, Bool.false_and]
      have q1 := q H (Evl.Ex.refl _)
      rw [e] at q1
      exact q1
theorem ok_ascends (T : Txt P w K mg a) : FnOk P w K mg base CX0 1 a.f_ascends a.d_ascends ["names"] (sp_ascends K) := by
  refine T.F_ascends.ok sc_ascends (fun vs H Q E h => ?len) (fun cdv A outer s H vs Q E hr h => ?body)
  case len => obtain ⟨p, zs, rfl, _⟩ := h; rfl
  case body =>
    obtain ⟨p, zs, rfl, hS, hz, q⟩ := h
    refine ⟨_, (pss_one (ps_ret (pe_callB (cr_allK (K := K) rfl rfl) (by rfl) T.z_all (by decide +kernel) (pa_cons (pe_lc (own := [("k", 1)]) (g := gName 1) (tt := tYes) rfl sc_ascends.nd (pi_range1 (by rfl) T.z_range (pa_cons (pe_op op_sub (pe_callB (call_lenK (K := K) rfl) (by rfl) T.z_len (by decide +kernel) (pa_cons (pv 0) pa_nil)) pe_int) pa_nil)) (blkOk_by (own := [("k", 1)]) (N := ["names", "k"]) (sc := defScope s_ascends) (by decide +kernel)) (fun _ _ _ _ _ => (pg_name (i := 1) sc_ascends.nd rfl (Or.inl rfl))) (fun _ _ _ _ _ => pts_nil) (fun _ _ _ _ _ => (pe_cmpR op_lt_strN (pe_ix (ix_seqK (K := K) rfl) (pv 0) (pv 1) (fun _ _ => rfl)) (pe_ix (ix_seqK (K := K) rfl) (pv 0) (pe_op op_add (pv 1) pe_int) (fun _ _ => rfl)) (nomark _)))) pa_nil)))), ?_⟩
    try dsimp only [cxOf, Cx.nox]
    walk_at "go"
    refine g_lenQ hS ?_
    have hlm : (zs.map V.str).length = zs.length := List.length_map ..
    rw [hlm]
    walk_at "go"
    have et : ((zs.length : Int) - 1).toNat = zs.length - 1 := by omega
    rw [et]
    refine lc_rng (fun (i : Nat) => .bl (decide ((zs.getD i Str.empty).cps.toList < (zs.getD (i + 1) Str.empty).cps.toList))) (by omega) (fun i hi H1 e1 R hR => ?_) (fun p' H' hp hE hL => ?_)
    · have hS1 := hS.mono e1
      walk_at "go"
      refine g_ixQ hS1 (at_strs2 (by omega)) ?_
      walk_at "go"
      refine g_ixQ hS1 (at_strs2 (i := i + 1) (by omega)) ?_
      walk_at "go"
      exact hR _ (Evl.Ex.refl _)
    · walk_at "go"
      exact q H' hE
theorem ok_check_names (T : Txt P w K mg a) : FnOk P w K mg base CX0 2 a.f_check_names a.d_check_names ["names"] (sp_check_names K) := by
  refine T.F_check_names.ok sc_check_names (fun vs H Q E h => ?len) (fun cdv A outer s H vs Q E hr h => ?body)
  case len => obtain ⟨p, zs, rfl, _⟩ := h; rfl
  case body =>
    obtain ⟨p, zs, rfl, hS, hz, hn, q⟩ := h
    refine ⟨_, (pss_one (ps_for PassesOwn.never rfl (pi_seqK (K := K) rfl (pv 0)) (pg_name (i := 1) sc_check_names.nd rfl (Or.inl rfl))
   (pss_one (ps_if (pt_not (pt_val (pe_call (ok_is_name T) (hr.mono (by decide)) (by rfl) T.g_is_name T.F_is_name.kp T.b_is_name .nil pass0 (pa_cons (pv 1) pa_nil))))
   (pss_one ps_never)
   pss_nil)))), ?_⟩
    try dsimp only [cxOf, Cx.nox]
    walk_at "go"
    refine g_iSeq ?_
    walk_at "go"
    have step : ∀ (i : Nat) (x : V) (H1 : Hp), Ex H H1 → (zs.map V.str)[i]? = some x → ∃ z, x = .str z ∧ z ∈ zs := fun i x H1 _ hx => by
      rw [List.getElem?_map] at hx
      cases e : zs[i]? with
      | none => rw [e] at hx; cases hx
      | some z => rw [e] at hx; exact ⟨z, (Option.some.inj hx).symm, List.mem_of_getElem? e⟩
    refine g_atQ hS (fun hS => ?_) (fun hS => ?_)
    · refine l_it (walk_list (xs := zs.map V.str)) (fun i σ' H' => ∃ v1, σ' = [some (.ref p), v1] ∧ Ex H H') ⟨_, rfl, Evl.Ex.refl _⟩ (fun i σ' H' _ hP => by obtain ⟨_, _, hE⟩ := hP; exact ex_sqL hE hS) (fun i x σ' H1 H2 hi hP hY => ?_) (fun σ' H1 hP => ?_)
      · obtain ⟨v1, rfl, hE⟩ := hP
        obtain ⟨rfl, hx⟩ := hY
        obtain ⟨z, rfl, hz1⟩ := step i _ _ hE hx
        walk_at "go"
        refine ⟨z, rfl, by have := isName_len (hn z hz1); omega, fun H3 h3 => ?_⟩
        rw [hn z hz1]
        walk_at "go"
        exact ⟨_, rfl, hE.trans h3⟩
      · obtain ⟨v1, rfl, hE⟩ := hP
        walk_at "go"
        exact q _ hE
    · refine l_it (walk_tup (xs := zs.map V.str)) (fun i σ' H' => ∃ v1, σ' = [some (.ref p), v1] ∧ Ex H H') ⟨_, rfl, Evl.Ex.refl _⟩ (fun i σ' H' _ hP => by obtain ⟨_, _, hE⟩ := hP; exact ex_sqT hE hS) (fun i x σ' H1 H2 hi hP hY => ?_) (fun σ' H1 hP => ?_)
      · obtain ⟨v1, rfl, hE⟩ := hP
        obtain ⟨rfl, hx⟩ := hY
        obtain ⟨z, rfl, hz1⟩ := step i _ _ hE hx
        walk_at "go"
        refine ⟨z, rfl, by have := isName_len (hn z hz1); omega, fun H3 h3 => ?_⟩
        rw [hn z hz1]
        walk_at "go"
        exact ⟨_, rfl, hE.trans h3⟩
      · obtain ⟨v1, rfl, hE⟩ := hP
        walk_at "go"
        exact q _ hE
theorem ok_are_shares (T : Txt P w K mg a) : FnOk P w K mg base CX0 1 a.f_are_shares a.d_are_shares ["shares"] (sp_are_shares K) := by
  refine T.F_are_shares.ok sc_are_shares (fun vs H Q E h => ?len) (fun cdv A outer s H vs Q E hr h => ?body)
  case len => obtain ⟨p, xs, rfl, _⟩ := h; rfl
  case body =>
    obtain ⟨p, xs, rfl, hS, hz, hx, q⟩ := h
    refine ⟨_, (pss_one (ps_ret (pe_and (pe_callB (call_instK (K := K) rfl) (by rfl) T.z_isinstance (by decide +kernel) (pa_cons (pv 0) (pa_cons (pe_bltn (v := .ty "tuple") (by rfl) T.z_tuple (by decide +kernel) rfl) pa_nil))) (pe_one (pe_callB (cr_allK (K := K) rfl rfl) (by rfl) T.z_all (by decide +kernel) (pa_cons (pe_lc (own := [("share", 1)]) (g := gName 1) (tt := tYes) rfl sc_are_shares.nd (pi_tupK (K := K) rfl (pv 0)) (blkOk_by (own := [("share", 1)]) (N := ["shares", "share"]) (sc := defScope s_are_shares) (by decide +kernel)) (fun _ _ _ _ _ => (pg_name (i := 1) sc_are_shares.nd rfl (Or.inl rfl))) (fun _ _ _ _ _ => pts_nil) (fun _ _ _ _ _ => (pe_and (pe_callB (call_instK (K := K) rfl) (by rfl) T.z_isinstance (by decide +kernel) (pa_cons (pv 1) (pa_cons (pe_bltn (v := .ty "tuple") (by rfl) T.z_tuple (by decide +kernel) rfl) pa_nil))) (pe_one (pe_cmpR op_eq (pe_callB (call_lenK (K := K) rfl) (by rfl) T.z_len (by decide +kernel) (pa_cons (pv 1) pa_nil)) pe_int (nomark _)))))) pa_nil)))))), ?_⟩
    try dsimp only [cxOf, Cx.nox]
    walk_at "go"
    refine lc_tup (fun _ => .bl true) hS (by rw [List.length_map]; omega) (fun x hx1 H1 e1 R hR => ?_) (fun p' H' hp hE hL => ?_)
    · obtain ⟨y, hy, rfl⟩ := List.mem_map.mp hx1
      have h1 := ex_sqT e1 (hx y hy)
      walk_at "go"
      exact hR _ (Evl.Ex.refl _)
    · have hL2 : SqL K H' p' ((xs.map fun x => V.ref x.1).map fun c => V.bl ((fun _ => true) c)) := .inl (.inl hL)
      walk_at "go"
      have e : ((xs.map fun x => V.ref x.1).all fun _ => true) = true := by simp
      rw [e]
      exact q H' hE
theorem ok_has_form (T : Txt P w K mg a) : FnOk P w K mg base CX0 2 a.f_has_form a.d_has_form ["word", "numbers"] (sp_has_form K) := by
  refine T.F_has_form.ok sc_has_form (fun vs H Q E h => ?len) (fun cdv A outer s H vs Q E hr h => ?body)
  case len => obtain ⟨wd, p, n, gs, rfl, _⟩ := h; rfl
  case body =>
    obtain ⟨wd, p, n, gs, rfl, hN, hok, q⟩ := h
    have hW := T.w_SIZES
    refine ⟨_, (pss_cons (ps_if (PW.pt (pw_or (pt_cmpR (op_ninWK (K := K) (w := w) rfl rfl) (pv 0) (pe_glob (v := .ref a.w_SIZES) (by rfl) T.g_SIZES rfl (by decide)) rfl) (pw_or1 (pt_cmpR op_ne (pe_callB (call_lenK (K := K) rfl) (by rfl) T.z_len (by decide +kernel) (pa_cons (pv 1) pa_nil)) (pe_ix (ix_kdictK (K := K) (w := w) rfl rfl) (pe_glob (v := .ref a.w_SIZES) (by rfl) T.g_SIZES rfl (by decide)) (pv 0) (fun _ _ => rfl)) (nomark _)))))
   (pss_one (ps_ret pe_bl))
   pss_nil)
  (pss_cons (ps_if (pt_cmpR op_eq (pv 0) pe_str (nomark _))
   (pss_one (ps_ret (pe_and (pe_callB (call_instK (K := K) rfl) (by rfl) T.z_isinstance (by decide +kernel) (pa_cons (pe_ix (ix_tupK (K := K) rfl) (pv 1) pe_int (fun _ _ => rfl)) (pa_cons (pe_bltn (v := .ty "int") (by rfl) T.z_int (by decide +kernel) rfl) pa_nil))) (pe_one (pe_call (ok_are_shares T) (hr.mono (by decide)) (by rfl) T.g_are_shares T.F_are_shares.kp T.b_are_shares .nil pass0 (pa_cons (pe_ix (ix_tupK (K := K) rfl) (pv 1) pe_int (fun _ _ => rfl)) pa_nil))))))
   pss_nil)
  (pss_one (ps_ret (pe_callB (cr_allK (K := K) rfl rfl) (by rfl) T.z_all (by decide +kernel) (pa_cons (pe_lc (own := [("number", 2)]) (g := gName 2) (tt := tYes) rfl sc_has_form.nd (pi_tupK (K := K) rfl (pv 1)) (blkOk_by (own := [("number", 2)]) (N := ["word", "numbers", "number"]) (sc := defScope s_has_form) (by decide +kernel)) (fun _ _ _ _ _ => (pg_name (i := 2) sc_has_form.nd rfl (Or.inl rfl))) (fun _ _ _ _ _ => pts_nil) (fun _ _ _ _ _ => (pe_callB (call_instK (K := K) rfl) (by rfl) T.z_isinstance (by decide +kernel) (pa_cons (pv 2) (pa_cons (pe_bltn (v := .ty "int") (by rfl) T.z_int (by decide +kernel) rfl) pa_nil))))) pa_nil)))))), ?_⟩
    try dsimp only [cxOf, Cx.nox]
    walk_at "go"
    cases n with
    | flat ns =>
      have hN : SqT K H p (ns.map V.int) := hN
      have hf : FlatOk wd ns := hok.1
      have hm : (wd, V.int ns.length) ∈ sizesL ∧ wd ≠ "pool" ∧ ns.length ≤ 2 := by
        rcases hf with ⟨h1, a, b, rfl, _⟩ | ⟨rfl, b, rfl, _⟩ | ⟨rfl, b, rfl, _⟩
        · rcases h1 with rfl | rfl | rfl <;> exact ⟨by simp [sizesL], by decide +kernel, Nat.le_refl _⟩
        · exact ⟨by simp [sizesL], by decide +kernel, by show 1 ≤ 2; omega⟩
        · exact ⟨by simp [sizesL], by decide +kernel, by show 1 ≤ 2; omega⟩
      obtain ⟨hm, hp, hl⟩ := hm
      refine g_inW hW hm ?_
      walk_at "go"
      refine g_ixW hW hm ?_
      have hlm : (ns.map V.int).length = ns.length := List.length_map ..
      rw [hlm]
      walk_at "go"
      refine w_ndec (fun h => absurd rfl h) (fun _ => ?_)
      walk_at "go"
      refine w_dec (fun h => absurd h hp) (fun _ => ?_)
      walk_at "go"
      refine lc_tup (fun _ => .bl true) hN (by rw [List.length_map]; omega) (fun x hx1 H1 e1 R hR => ?_) (fun p' H' hp hE hL => ?_)
      · obtain ⟨y, hy, rfl⟩ := List.mem_map.mp hx1
        walk_at "go"
        exact hR _ (Evl.Ex.refl _)
      · have hL2 : SqL K H' p' ((ns.map V.int).map fun c => V.bl ((fun _ => true) c)) := .inl (.inl hL)
        walk_at "go"
        have e : ((ns.map V.int).all fun _ => true) = true := by simp
        rw [e]
        exact q H' hE
    | pool m sh =>
      obtain ⟨rfl, _, h1, h2, _⟩ := hok
      obtain ⟨ps, xs, k1, k2, k3, k4⟩ := hN
      have hm : (("pool" : Str), V.int 2) ∈ sizesL := by simp [sizesL]
      refine g_inW hW hm ?_
      walk_at "go"
      refine g_ixW hW hm ?_
      walk_at "go"
      refine w_ndec (fun h => absurd rfl h) (fun _ => ?_)
      walk_at "go"
      refine w_dec (fun _ => ?_) (fun h => absurd rfl h)
      walk_at "go"
      have hxl : xs.length ≤ 1000 := by
        have := congrArg List.length k3
        rw [List.length_map] at this
        omega
      refine ⟨ps, xs, rfl, k2, hxl, k4, fun H1 h1 => ?_⟩
      exact q H1 h1
theorem ok_check_pool (T : Txt P w K mg a) : FnOk P w K mg base CX0 2 a.f_check_pool a.d_check_pool ["groups", "most", "shares"] (sp_check_pool K) := by
  refine T.F_check_pool.ok sc_check_pool (fun vs H Q E h => ?len) (fun cdv A outer s H vs Q E hr h => ?body)
  case len => obtain ⟨g, p, m, xs, rfl, _⟩ := h; rfl
  case body =>
    obtain ⟨g, p, m, xs, rfl, hG, hS, hx, hok, q⟩ := h
    obtain ⟨_, _, h1, h2, h3, h4, h5, h6, h7⟩ := hok
    rw [List.length_map] at h1 h2
    have hM : ∀ i : Int, i ≤ million → i ≤ 1000000 := fun i hi => hi
    refine ⟨_, (pss_cons (ps_setLc (i := 3) (own := [("share", 7)]) (g := gName 7) (tt := tYes) rfl sc_check_pool.nd rfl rfl (sw_true rfl rfl rfl (by decide +kernel)) (pi_tupK (K := K) rfl (pv 2)) (blkOk_by (own := [("share", 7)]) (N := ["groups", "most", "shares", "names", "_", "own", "ceiling", "share"]) (sc := defScope s_check_pool) (by decide +kernel)) (fun _ _ _ _ _ => (pg_name (i := 7) sc_check_pool.nd rfl (Or.inl rfl))) (fun _ _ _ _ _ => pts_nil) (fun _ _ _ _ _ => (pe_ix (ix_tupK (K := K) rfl) (pv 7) pe_int (fun _ _ => rfl))))
  (pss_cons (ps_if (PW.pt (pw_or (pt_cmpR op_gt (pe_callB (call_lenK (K := K) rfl) (by rfl) T.z_len (by decide +kernel) (pa_cons (pv 0) pa_nil)) pe_int (nomark _)) (pw_or (pt_not (pt_chain op_le op_le pe_int (pe_callB (call_lenK (K := K) rfl) (by rfl) T.z_len (by decide +kernel) (pa_cons (pv 2) pa_nil)) pe_int)) (pw_or (pt_not (pt_val (pe_call (ok_ascends T) (hr.mono (by decide)) (by rfl) T.g_ascends T.F_ascends.kp T.b_ascends .nil pass0 (pa_cons (pv 3) pa_nil)))) (pw_or1 (pt_not (pt_chain op_le op_le pe_int (pv 1) (pe_globE T.c_MOST_NUMBER (by rfl)))))))))
   (pss_one ps_never)
   pss_nil)
  (pss_cons (ps_for PassesOwn.never rfl (pi_tupK (K := K) rfl (pv 2)) (pg_tupK (K := K) rfl rfl (pgs_cons (pg_name (i := 4) sc_check_pool.nd rfl (Or.inl rfl)) (pgs_cons (pg_name (i := 5) sc_check_pool.nd rfl (Or.inl rfl)) (pgs_cons (pg_name (i := 6) sc_check_pool.nd rfl (Or.inl rfl)) pgs_nil))))
   (pss_one (ps_if (pt_not (pt_chain3 op_le op_le op_le pe_int (pv 5) (pv 6) (pe_globE T.c_MOST_NUMBER (by rfl))))
   (pss_one ps_never)
   pss_nil)))
  (pss_one (ps_if (pt_cmpR op_gt (pe_callB (cr_sumK (K := K) rfl rfl) (by rfl) T.z_sum (by decide +kernel) (pa_cons (pe_lc (own := [("share", 7)]) (g := gName 7) (tt := tYes) rfl sc_check_pool.nd (pi_tupK (K := K) rfl (pv 2)) (blkOk_by (own := [("share", 7)]) (N := ["groups", "most", "shares", "names", "_", "own", "ceiling", "share"]) (sc := defScope s_check_pool) (by decide +kernel)) (fun _ _ _ _ _ => (pg_name (i := 7) sc_check_pool.nd rfl (Or.inl rfl))) (fun _ _ _ _ _ => pts_nil) (fun _ _ _ _ _ => (pe_ix (ix_tupK (K := K) rfl) (pv 7) pe_int (fun _ _ => rfl)))) pa_nil)) (pv 1) (nomark _))
   (pss_one ps_never)
   pss_nil))))), ?_⟩
    try dsimp only [cxOf, Cx.nox]
    walk_at "go"
    refine lc_tupA (fun x : Addr × Shr => V.ref x.1) (fun x => V.str x.2.1) (0, "", 0, 0) hS (by omega) (fun x hx1 H1 e1 R hR => ?_) (fun pn H1 hpn hE1 hA1 => ?_)
    · have k1 := ex_sqT e1 (hx x hx1)
      walk_at "go"
      exact hR _ (Evl.Ex.refl _)
    have hG1 := ex_sqT hE1 hG
    have hS1 := ex_sqT hE1 hS
    have hlm : (xs.map fun x => V.ref x.1).length = xs.length := List.length_map ..
    have hAS : SqQ K H1 pn (((xs.map (·.2)).map (·.1)).map V.str) := .inl (.inl (.inl (by rw [hA1, List.map_map, List.map_map]; rfl)))
    walk_at "go"
    refine w_dec (fun h => absurd h (by decide)) (fun _ => ?_)
    walk_at "go"
    rw [hlm]
    refine w_dec (fun _ => ?_) (fun h => absurd (by omega) h)
    walk_at "go"
    refine w_ndec (fun h => absurd (by omega) h) (fun _ => ?_)
    walk_at "go"
    refine ⟨pn, _, rfl, hAS, by rw [List.length_map, List.length_map]; omega, fun H2 hE2 => ?_⟩
    rw [ascB_of h3]
    walk_at "go"
    refine w_dec (fun _ => ?_) (fun h => absurd h5 h)
    walk_at "go"
    refine w_ndec (fun h => absurd h6 h) (fun _ => ?_)
    have hS2 := ex_sqT hE2 hS1
    have hE02 := hE1.trans hE2
    walk_at "go"
    refine l_it (walk_tup (xs := xs.map fun x => V.ref x.1)) (fun i σ' H' => ∃ v3 v4 v5 v6 v7, σ' = [some (.ref g), some (.int m), some (.ref p), v3, v4, v5, v6, v7] ∧ Ex H2 H') ⟨_, _, _, _, _, rfl, Evl.Ex.refl _⟩ (fun i σ' H' _ hP => by obtain ⟨_, _, _, _, _, _, hE⟩ := hP; exact ex_sqT hE hS2) (fun i x σ' H3 H4 hi hP hY => ?_) (fun σ' H3 hP => ?_)
    · obtain ⟨v3, v4, v5, v6, v7, rfl, hE⟩ := hP
      obtain ⟨rfl, hx3⟩ := hY
      rw [List.getElem?_map] at hx3
      cases e : xs[i]? with
      | none => rw [e] at hx3; cases hx3
      | some y =>
        rw [e] at hx3
        have ex : V.ref y.1 = x := Option.some.inj hx3
        subst ex
        have hy := List.mem_of_getElem? e
        have k3 := ex_sqT (hE02.trans hE) (hx y hy)
        obtain ⟨_, g1, g2, g3⟩ := h4 y.2 (List.mem_map.mpr ⟨y, hy, rfl⟩)
        walk_at "go"
        refine w_dec (fun _ => ?_) (fun h => absurd g1 h)
        walk_at "go"
        refine w_dec (fun _ => ?_) (fun h => absurd g2 h)
        walk_at "go"
        refine w_ndec (fun h => absurd g3 h) (fun _ => ?_)
        walk_at "go"
        exact ⟨_, _, _, _, _, rfl, hE⟩
    · obtain ⟨v3, v4, v5, v6, v7, rfl, hE⟩ := hP
      have hS3 := ex_sqT hE hS2
      walk_at "go"
      refine lc_tupA (fun x : Addr × Shr => V.ref x.1) (fun x => V.int x.2.2.1) (0, "", 0, 0) hS3 (by omega) (fun x hx1 H1 e1 R hR => ?_) (fun pm H4 hpm hE4 hA4 => ?_)
      · have k1 := ex_sqT (hE02.trans (hE.trans e1)) (hx x hx1)
        walk_at "go"
        exact hR _ (Evl.Ex.refl _)
      have hL2 : SqL K H4 pm (((xs.map (·.2)).map (·.2.1)).map V.int) := .inl (.inl (by rw [hA4, List.map_map, List.map_map]; rfl))
      walk_at "go"
      refine g_sum hL2 ?_
      walk_at "go"
      refine w_dec (fun h => absurd h7 (by omega)) (fun _ => ?_)
      walk_at "go"
      exact q _ (hE02.trans (hE.trans hE4))
theorem ok_check_numbers (T : Txt P w K mg a) : FnOk P w K mg base CX0 1 a.f_check_numbers a.d_check_numbers ["word", "numbers"] (sp_check_numbers K) := by
  refine T.F_check_numbers.ok sc_check_numbers (fun vs H Q E h => ?len) (fun cdv A outer s H vs Q E hr h => ?body)
  case len => obtain ⟨wd, p, ns, rfl, _⟩ := h; rfl
  case body =>
    obtain ⟨wd, p, ns, rfl, hS, hf, q⟩ := h
    refine ⟨_, (pss_cons (ps_set (i := 2) sc_check_numbers.nd rfl (Or.inl rfl) (pe_dget (hu_of hr) (pe_disp (pps_cons pe_str (pe_tup (pa_cons pe_int (pa_cons pe_int pa_nil))) (pps_cons pe_str (pe_tup (pa_cons pe_int (pa_cons pe_int pa_nil))) (pps_cons pe_str (pe_tup (pa_cons pe_int (pa_cons pe_int pa_nil))) (pps_cons pe_str (pe_tup (pa_cons pe_int pa_nil)) (pps_cons pe_str (pe_tup (pa_cons pe_int pa_nil)) pps_nil))))) rfl rfl (by intro z; cases z) (by decide)) (pv 0) (fun _ _ => rfl)))
  (pss_one (ps_for PassesOwn.never rfl (pi_zipAK (K := K) rfl (by rfl) T.z_zip (pa_cons (pv 1) (pa_cons (pv 2) pa_nil))) (pg_tupK (K := K) rfl rfl (pgs_cons (pg_name (i := 3) sc_check_numbers.nd rfl (Or.inl rfl)) (pgs_cons (pg_name (i := 4) sc_check_numbers.nd rfl (Or.inl rfl)) pgs_nil)))
   (pss_one (ps_if (pt_not (pt_chain op_le op_le (pv 4) (pv 3) (pe_globE T.c_MOST_NUMBER (by rfl))))
   (pss_one ps_never)
   pss_nil))))), ?_⟩
    try dsimp only [cxOf, Cx.nox]
    walk_at "go"
    rename_i pD hpD p1 hp1 p2 hp2 p3 hp3 p4 hp4 p5 hp5
    generalize hH : upd _ p5 _ = Hn
    have hE : Ex H Hn := by rw [← hH]; exact Evl.Ex.trans (Evl.Ex.trans (Evl.Ex.trans (Evl.Ex.trans (Evl.Ex.trans (Evl.Ex.new hpD) (Evl.Ex.new hp1)) (Evl.Ex.new hp2)) (Evl.Ex.new hp3)) (Evl.Ex.new hp4)) (Evl.Ex.new hp5)
    have t1 : SqT K Hn p1 [.int 0, .int 1] := by rw [← hH]; walk_at "sq"
    have t2 : SqT K Hn p2 [.int 0, .int 1] := by rw [← hH]; walk_at "sq"
    have t3 : SqT K Hn p3 [.int 0, .int 1] := by rw [← hH]; walk_at "sq"
    have t4 : SqT K Hn p4 [.int 1] := by rw [← hH]; walk_at "sq"
    have t5 : SqT K Hn p5 [.int 0] := by rw [← hH]; walk_at "sq"
    have hD : Hn pD = some (.dK []) := by rw [← hH]; walk_at "at"
    clear hp1 hp2 hp3 hp4 hp5 hH
    refine g_dispE [(Sum.inr "window", .ref p1), (Sum.inr "span", .ref p2), (Sum.inr "bucket", .ref p3), (Sum.inr "gap", .ref p4), (Sum.inr "held", .ref p5)] hD rfl (by show 5 ≤ 15; omega) ?_
    have hE2 : Ex H (upd Hn pD (.dK (mergeK [] [(Sum.inr "window", .ref p1), (Sum.inr "span", .ref p2), (Sum.inr "bucket", .ref p3), (Sum.inr "gap", .ref p4), (Sum.inr "held", .ref p5)]))) := Evl.Ex.mut hE hpD
    obtain ⟨pk, lows, hv, hlo, hlen, hle⟩ : ∃ (pk : Addr) (lows : List Int), valV (mergeK [] [(Sum.inr "window", V.ref p1), (Sum.inr "span", .ref p2), (Sum.inr "bucket", .ref p3), (Sum.inr "gap", .ref p4), (Sum.inr "held", .ref p5)]) (Sum.inr wd) = some (.ref pk) ∧ SqT K Hn pk (lows.map V.int) ∧ ns.length = lows.length ∧ ∀ (i : Nat) (x y : Int), ns[i]? = some x → lows[i]? = some y → y ≤ x ∧ x ≤ 1000000 := by
      have two : ∀ a b : Int, 0 ≤ a → a ≤ million → 1 ≤ b → b ≤ million → ∀ (i : Nat) (x y : Int), [a, b][i]? = some x → [(0 : Int), 1][i]? = some y → y ≤ x ∧ x ≤ 1000000 := fun a b h1 h2 h3 h4 i x y hx hy => by
        match i with
        | 0 => cases hx; cases hy; exact ⟨h1, h2⟩
        | 1 => cases hx; cases hy; exact ⟨h3, h4⟩
        | i + 2 => cases hx
      have one : ∀ a c : Int, c ≤ a → a ≤ million → ∀ (i : Nat) (x y : Int), [a][i]? = some x → [c][i]? = some y → y ≤ x ∧ x ≤ 1000000 := fun a c h1 h2 i x y hx hy => by
        match i with
        | 0 => cases hx; cases hy; exact ⟨h1, h2⟩
        | i + 1 => cases hx
      rcases hf with ⟨h1, a, b, rfl, g1, g2, g3, g4⟩ | ⟨rfl, b, rfl, g1, g2⟩ | ⟨rfl, b, rfl, g1, g2⟩
      · rcases h1 with rfl | rfl | rfl
        · exact ⟨p1, [0, 1], by rfl, t1, rfl, two a b g1 g2 g3 g4⟩
        · exact ⟨p2, [0, 1], by rfl, t2, rfl, two a b g1 g2 g3 g4⟩
        · exact ⟨p3, [0, 1], by rfl, t3, rfl, two a b g1 g2 g3 g4⟩
      · exact ⟨p4, [1], by rfl, t4, rfl, one b 1 g1 g2⟩
      · exact ⟨p5, [0], by rfl, t5, rfl, one b 0 g1 g2⟩
    have hlo2 := sqT_updD (o := .dK (mergeK [] [(Sum.inr "window", V.ref p1), (Sum.inr "span", .ref p2), (Sum.inr "bucket", .ref p3), (Sum.inr "gap", .ref p4), (Sum.inr "held", .ref p5)])) hD hlo
    walk_at "go"
    refine g_dgetS upd_same hv ?_
    generalize upd Hn pD _ = Hm at hlo2 hE2 ⊢
    have hS2 := ex_sqT hE2 hS
    walk_at "go"
    refine g_zip ?_
    walk_at "go"
    refine ⟨p, pk, ns.map V.int, lows.map V.int, rfl, .inr ⟨hS2, hlo2, ?_⟩⟩
    refine l_zipT (xs := ns.map V.int) (ys := lows.map V.int) (by rw [List.length_map, List.length_map]; exact hlen) (fun i σ' H' => ∃ v3 v4, σ' = [some (.str wd), some (.ref p), some (.ref pk), v3, v4] ∧ Ex Hm H') ⟨_, _, rfl, Evl.Ex.refl _⟩ (fun i σ' H' hP => by obtain ⟨_, _, _, hE⟩ := hP; exact ⟨ex_sqT hE hS2, ex_sqT hE hlo2⟩) (fun i x y t σ' H' hx hy hP ht => ?_) (fun σ' H' hP => ?_)
    · obtain ⟨v3, v4, rfl, hE⟩ := hP
      rw [List.getElem?_map] at hx hy
      cases e1 : ns[i]? with
      | none => rw [e1] at hx; cases hx
      | some x1 =>
        cases e2 : lows[i]? with
        | none => rw [e2] at hy; cases hy
        | some y1 =>
          rw [e1] at hx
          rw [e2] at hy
          obtain rfl : V.int x1 = x := Option.some.inj hx
          obtain rfl : V.int y1 = y := Option.some.inj hy
          obtain ⟨g1, g2⟩ := hle i x1 y1 e1 e2
          walk_at "go"
          refine w_dec (fun _ => ?_) (fun h => absurd g1 h)
          walk_at "go"
          refine w_ndec (fun h => absurd g2 h) (fun _ => ?_)
          walk_at "go"
          exact ⟨_, _, rfl, hE.trans (Evl.Ex.new ht)⟩
    · obtain ⟨v3, v4, rfl, hE⟩ := hP
      walk_at "go"
      exact q _ (hE2.trans hE)
theorem ok_check_limit (T : Txt P w K mg a) : FnOk P w K mg base CX0 3 a.f_check_limit a.d_check_limit ["limit"] (sp_check_limit K) := by
  refine T.F_check_limit.ok sc_check_limit (fun vs H Q E h => ?len) (fun cdv A outer s H vs Q E hr h => ?body)
  case len => obtain ⟨p, l, rfl, _⟩ := h; rfl
  case body =>
    obtain ⟨p, l, rfl, hL, hok, q⟩ := h
    obtain ⟨pg, pn, h1, h2, h3⟩ := hL
    obtain ⟨o1, o2, o3⟩ := hok
    have hgl : l.gs.length ≤ 8 := by
      have o3 := o3
      cases hn : l.nu with
      | flat ns => rw [hn] at o3; exact o3.2.1
      | pool m sh => rw [hn] at o3; rw [o3.2.1]; decide
    refine ⟨_, (pss_cons (ps_if (pt_cmpR op_ne (pe_callB (call_lenK (K := K) rfl) (by rfl) T.z_len (by decide +kernel) (pa_cons (pv 0) pa_nil)) pe_int (nomark _))
   (pss_one ps_never)
   pss_nil)
  (pss_cons (ps_asg (pv 0) (pg_tupK (K := K) rfl rfl (pgs_cons (pg_name (i := 1) sc_check_limit.nd rfl (Or.inl rfl)) (pgs_cons (pg_name (i := 2) sc_check_limit.nd rfl (Or.inl rfl)) (pgs_cons (pg_name (i := 3) sc_check_limit.nd rfl (Or.inl rfl)) (pgs_cons (pg_name (i := 4) sc_check_limit.nd rfl (Or.inl rfl)) pgs_nil))))))
  (pss_cons (ps_expr (pe_call (ok_check_names T) (hr.mono (by decide)) (by rfl) T.g_check_names T.F_check_names.kp T.b_check_names .nil pass0 (pa_cons (pe_op (op_catTK (K := K) rfl) (pe_tup (pa_cons (pv 1) pa_nil)) (pv 3)) pa_nil)))
  (pss_cons (ps_if (pt_not (pt_val (pe_call (ok_has_form T) (hr.mono (by decide)) (by rfl) T.g_has_form T.F_has_form.kp T.b_has_form .nil pass0 (pa_cons (pv 2) (pa_cons (pv 4) pa_nil)))))
   (pss_one ps_never)
   pss_nil)
  (pss_cons (ps_if (pt_cmpR op_eq (pv 2) pe_str (nomark _))
   (pss_cons (ps_expr (pe_call (ok_check_names T) (hr.mono (by decide)) (by rfl) T.g_check_names T.F_check_names.kp T.b_check_names .nil pass0 (pa_cons (pe_lc (own := [("share", 5)]) (g := gName 5) (tt := tYes) rfl sc_check_limit.nd (pi_tupK (K := K) rfl (pe_ix (ix_tupK (K := K) rfl) (pv 4) pe_int (fun _ _ => rfl))) (blkOk_by (own := [("share", 5)]) (N := ["limit", "name", "word", "groups", "numbers", "share"]) (sc := defScope s_check_limit) (by decide +kernel)) (fun _ _ _ _ _ => (pg_name (i := 5) sc_check_limit.nd rfl (Or.inl rfl))) (fun _ _ _ _ _ => pts_nil) (fun _ _ _ _ _ => (pe_ix (ix_tupK (K := K) rfl) (pv 5) pe_int (fun _ _ => rfl)))) pa_nil)))
  (pss_cons (ps_expr (pe_call (ok_check_pool T) (hr.mono (by decide)) (by rfl) T.g_check_pool T.F_check_pool.kp T.b_check_pool .nil pass0 (pa_cons (pv 3) (pa_cons (pe_ix (ix_tupK (K := K) rfl) (pv 4) pe_int (fun _ _ => rfl)) (pa_cons (pe_ix (ix_tupK (K := K) rfl) (pv 4) pe_int (fun _ _ => rfl)) pa_nil)))))
  (pss_one ps_retN)))
   pss_nil)
  (pss_cons (ps_if (PW.pt (pw_or (pt_cmpR op_gt (pe_callB (call_lenK (K := K) rfl) (by rfl) T.z_len (by decide +kernel) (pa_cons (pv 3) pa_nil)) pe_int (nomark _)) (pw_or1 (pt_not (pt_val (pe_call (ok_ascends T) (hr.mono (by decide)) (by rfl) T.g_ascends T.F_ascends.kp T.b_ascends .nil pass0 (pa_cons (pv 3) pa_nil)))))))
   (pss_one ps_never)
   pss_nil)
  (pss_one (ps_expr (pe_call (ok_check_numbers T) (hr.mono (by decide)) (by rfl) T.g_check_numbers T.F_check_numbers.kp T.b_check_numbers .nil pass0 (pa_cons (pv 2) (pa_cons (pv 4) pa_nil))))))))))), ?_⟩
    try dsimp only [cxOf, Cx.nox]
    walk_at "go"
    refine w_ndec (fun h => absurd rfl h) (fun _ => ?_)
    walk_at "go"
    rename_i p1 hp1
    have hE1 : Ex H (upd H p1 (.tup [.str l.nm])) := Evl.Ex.new hp1
    refine g_catTE (xs := []) (.inl (.inl upd_same)) (ex_sqT hE1 h2) (fits_of (by rw [List.length_map]; show 1 + _ ≤ _; omega)) (fun p2 H2 hE2 hS2 => ?_)
    have hE := hE1.trans hE2
    walk_at "go"
    refine ⟨p2, l.nm :: l.gs, rfl, .inr hS2, by show _ + 1 ≤ _; omega, fun z hz => ?_, fun H3 hE3 => ?_⟩
    · rcases List.mem_cons.mp hz with rfl | hz
      · exact o1
      · exact o2 z hz
    have hE := hE.trans hE3
    clear hp1 hE1 hE2 hE3 hS2
    have h1 := ex_sqT hE h1
    have h2 := ex_sqT hE h2
    have h3 := h3.mono hE
    walk_at "go"
    refine ⟨l.wd, pn, l.nu, l.gs, rfl, h3, o3, fun H4 hE4 => ?_⟩
    have hE := hE.trans hE4
    have h1 := ex_sqT hE4 h1
    have h2 := ex_sqT hE4 h2
    have h3 := h3.mono hE4
    walk_at "go"
    cases hn : l.nu with
    | flat ns =>
      rw [hn] at h3 o3
      have hp : l.wd ≠ "pool" := by
        rcases o3.1 with ⟨h1, _⟩ | ⟨h1, _⟩ | ⟨h1, _⟩
        · rcases h1 with h1 | h1 | h1 <;> (rw [h1]; decide +kernel)
        · rw [h1]; decide +kernel
        · rw [h1]; decide +kernel
      refine w_dec (fun h => absurd h hp) (fun _ => ?_)
      have hlm : (l.gs.map V.str).length = l.gs.length := List.length_map ..
      walk_at "go"
      rw [hlm]
      refine w_dec (fun h => absurd h (by omega)) (fun _ => ?_)
      walk_at "go"
      refine ⟨pg, l.gs, rfl, .inr h2, by omega, fun H5 hE5 => ?_⟩
      rw [ascB_of o3.2.2]
      walk_at "go"
      exact ⟨l.wd, pn, ns, rfl, ex_sqT hE5 h3, o3.1, fun H6 hE6 => q _ (hE.trans (hE5.trans hE6))⟩
    | pool m sh =>
      rw [hn] at h3 o3
      have o30 := o3
      obtain ⟨ps, xs, k1, k2, k3, k4⟩ := h3
      obtain ⟨hwd, hgs, _, hsl, _, hok4, _⟩ := o3
      refine w_dec (fun _ => ?_) (fun h => absurd hwd h)
      have hxl : xs.length ≤ 8 := by
        have := congrArg List.length k3
        rw [List.length_map] at this
        omega
      walk_at "go"
      refine lc_tupA (fun x : Addr × Shr => V.ref x.1) (fun x => V.str x.2.1) (0, "", 0, 0) k2 (by omega) (fun x hx1 H1 e1 R hR => ?_) (fun pm H5 hpm hE5 hA5 => ?_)
      · have k5 := ex_sqT e1 (k4 x hx1)
        walk_at "go"
        exact hR _ (Evl.Ex.refl _)
      have hL2 : SqL K H5 pm ((sh.map (·.1)).map V.str) := .inl (.inl (by rw [hA5, ← k3, List.map_map, List.map_map]; rfl))
      have k1 := ex_sqT hE5 k1
      have k2 := ex_sqT hE5 k2
      have h2 := ex_sqT hE5 h2
      walk_at "go"
      refine ⟨pm, _, rfl, .inl hL2, by rw [List.length_map]; omega, fun z hz => ?_, fun H6 hE6 => ?_⟩
      · obtain ⟨s1, hs1, rfl⟩ := List.mem_map.mp hz
        exact (hok4 s1 hs1).1
      have k1 := ex_sqT hE6 k1
      have k2 := ex_sqT hE6 k2
      have h2 := ex_sqT hE6 h2
      walk_at "go"
      refine ⟨pg, ps, m, xs, rfl, by rw [hgs] at h2; exact h2, k2, fun x hx => ex_sqT (hE5.trans hE6) (k4 x hx), ?_, fun H7 hE7 => ?_⟩
      · rw [k3]
        rw [hwd, hgs] at o30
        exact o30
      walk_at "go"
      exact q _ (hE.trans (hE5.trans (hE6.trans hE7)))
theorem ok_first_of (T : Txt P w K mg a) : FnOk P w K mg base CX0 1 a.f_first_of a.d_first_of ["limit"] (sp_first_of K) := by
  refine T.F_first_of.ok sc_first_of (fun vs H Q E h => ?len) (fun cdv A outer s H vs Q E hr h => ?body)
  case len => obtain ⟨p, l, rfl, _⟩ := h; rfl
  case body =>
    obtain ⟨p, l, rfl, hL, q⟩ := h
    obtain ⟨_, _, h1, _, _⟩ := hL
    refine ⟨_, (pss_one (ps_ret (pe_ix (ix_tupK (K := K) rfl) (pv 0) pe_int (fun _ _ => rfl)))), ?_⟩
    try dsimp only [cxOf, Cx.nox]
    walk_at "go"
    exact q
theorem ok_Book_init (T : Txt P w K mg a) : FnOk P w K mg base CX0 4 a.f_Book_init a.d_Book_init ["self", "limits"] (sp_Book_init K a) := by
  refine T.F_Book_init.ok sc_Book_init (fun vs H Q E h => ?len) (fun cdv A outer s H vs Q E hr h => ?body)
  case len => obtain ⟨m, dx, p, xs, rfl, _⟩ := h; rfl
  case body =>
    obtain ⟨m, dx, p, xs, rfl, hm, hS, hL, hok, hl1, hl8, hnd, q⟩ := h
    have hcl := T.cl_Book
    have n1 := T.nf_Book__limits
    refine ⟨_, (pss_cons (ps_for PassesOwn.never rfl (pi_listK (K := K) rfl (pv 1)) (pg_name (i := 2) sc_Book_init.nd rfl (Or.inl rfl))
   (pss_one (ps_expr (pe_call (ok_check_limit T) (hr.mono (by decide)) (by rfl) T.g_check_limit T.F_check_limit.kp T.b_check_limit .nil pass0 (pa_cons (pv 2) pa_nil)))))
  (pss_cons (ps_setLc (i := 3) (own := [("limit", 2)]) (g := gName 2) (tt := tYes) rfl sc_Book_init.nd rfl rfl (sw_true rfl rfl rfl (by decide +kernel)) (pi_listK (K := K) rfl (pv 1)) (blkOk_by (own := [("limit", 2)]) (N := ["self", "limits", "limit", "names"]) (sc := defScope s_Book_init) (by decide +kernel)) (fun _ _ _ _ _ => (pg_name (i := 2) sc_Book_init.nd rfl (Or.inl rfl))) (fun _ _ _ _ _ => pts_nil) (fun _ _ _ _ _ => (pe_ix (ix_tupK (K := K) rfl) (pv 2) pe_int (fun _ _ => rfl))))
  (pss_cons (ps_if (PW.pt (pw_or (pt_not (pt_chain op_le op_le pe_int (pe_callB (call_lenK (K := K) rfl) (by rfl) T.z_len (by decide +kernel) (pa_cons (pv 1) pa_nil)) pe_int)) (pw_or1 (pt_cmpR op_ne (pe_callB (call_lenTK (P := P) (w := w) rfl rfl) (by rfl) T.z_len (by decide +kernel) (pa_cons (pe_callTy (call_setTK (P := P) (w := w) (K := K) rfl rfl rfl rfl) (by rfl) T.z_set (by decide +kernel) (pa_cons (pv 3) pa_nil)) pa_nil)) (pe_callB (call_lenK (K := K) rfl) (by rfl) T.z_len (by decide +kernel) (pa_cons (pv 3) pa_nil)) (nomark _)))))
   (pss_one ps_never)
   pss_nil)
  (pss_one (ps_fldK (K := K) rfl (pv 0) (pe_callBK (cr_sortedFK (K := K) rfl (ok_first_of T) (hr.mono (by decide)) T.b_first_of never0) (by rfl) T.z_sorted (by decide +kernel) (pa_cons (pv 1) pa_nil) (pk_cons (pe_glob (v := .ref a.f_first_of) (by rfl) T.g_first_of rfl (by decide)) pk_nil)) rfl))))), ?_⟩
    try dsimp only [cxOf, Cx.nox]
    walk_at "go"
    refine l_it (walk_list (xs := xs.map lV)) (fun i σ' H' => ∃ v2, σ' = [some (.ref m), some (.ref p), v2, none] ∧ Ex H H') ⟨_, rfl, Evl.Ex.refl _⟩ (fun i σ' H' _ hP => by obtain ⟨_, _, hE⟩ := hP; exact ex_sqL hE hS) (fun i x σ' H1 H2 hi hP hY => ?_) (fun σ' H1 hP => ?_)
    · obtain ⟨v2, rfl, hE⟩ := hP
      obtain ⟨rfl, hx3⟩ := hY
      rw [List.getElem?_map] at hx3
      cases e : xs[i]? with
      | none => rw [e] at hx3; cases hx3
      | some y =>
        rw [e] at hx3
        have ex : lV y = x := Option.some.inj hx3
        subst ex
        have hy := List.mem_of_getElem? e
        walk_at "go"
        refine ⟨y.1, y.2, rfl, (hL y hy).mono hE, hok y hy, fun H3 hE3 => ?_⟩
        walk_at "go"
        exact ⟨_, rfl, hE.trans hE3⟩
    · obtain ⟨v2, rfl, hE⟩ := hP
      have hS1 := ex_sqL hE hS
      have hLM1 := hL.mono hE
      walk_at "go"
      refine lc_lst lV (fun x => V.str (lN x)) (0, ⟨"", "", [], .flat []⟩) hS1 (by omega) (fun x hx1 H2 e1 R hR => ?_) (fun pn H2 hpn hE2 hA2 => ?_)
      · obtain ⟨_, _, k1, _⟩ := (hLM1 x hx1).mono e1
        walk_at "go"
        exact hR _ (Evl.Ex.refl _)
      have hA2 : SqL K H2 pn ((xs.map lN).map V.str) := .inl (.inl (by rw [hA2, List.map_map]; rfl))
      have hS2 := ex_sqL hE2 hS1
      have hlm : (xs.map lV).length = xs.length := List.length_map ..
      walk_at "go"
      rw [hlm]
      refine w_dec (fun _ => ?_) (fun h => absurd (by omega) h)
      walk_at "go"
      refine w_ndec (fun h => absurd (by omega) h) (fun _ => ?_)
      walk_at "go"
      refine ⟨pn, _, rfl, hA2, by rw [List.length_map]; omega, fun ps hps => ?_⟩
      walk_at "go"
      refine ⟨ps, _, rfl, upd_same, by rw [List.length_map]; omega, fun ys hy1 hy2 => ?_⟩
      have hyl : ys.length = (xs.map lN).length := ((List.perm_ext_iff_of_nodup hy1 hnd).mpr fun k => hy2 k).length_eq
      have hE3 : Ex H2 (upd H2 ps (textsO P w ps (xs.map lN))) := Evl.Ex.new hps
      have hA3 := ex_sqL hE3 hA2
      have hS3 := ex_sqL hE3 hS2
      have hE03 := hE.trans (hE2.trans hE3)
      generalize upd H2 ps _ = H3 at *
      have hlm2 : ((xs.map lN).map V.str).length = (xs.map lN).length := List.length_map ..
      walk_at "go"
      rw [hlm2, hyl]
      refine w_ndec (fun h => absurd rfl h) (fun _ => ?_)
      walk_at "go"
      refine g_sortF lN hS3 (fun x hx Q' hQ' => ⟨x.1, x.2, rfl, (hL x hx).mono hE03, hQ'⟩) (fun B hB => ?_)
      have hE4 : Ex H3 (upd H3 B (.lst ((sortN xs).map lV))) := Evl.Ex.new hB
      have hE04 := hE03.trans hE4
      have hBm := ex_at hE04 hm
      walk_at "go"
      refine g_stF1 hBm hcl n1 (by show 0 < 1000; decide) ?_
      have hne : m ≠ B := fun z => by rw [z] at hm; have := hE03 _ _ hm; rw [hB] at this; cases this
      refine q _ (ExP.upd (ExP.of hE04)) ⟨dx, B, upd_same, by rw [upd_ne (Ne.symm hne)]; exact upd_same, fun x hx => ?_, fun x hx => hok x ((sortN_perm xs).mem_iff.mp hx), by rw [(sortN_perm xs).length_eq]; exact hl8⟩
      exact ((hL x ((sortN_perm xs).mem_iff.mp hx)).mono hE04).tr fun q vs z => exP_sqT hBm (ExP.upd (ExP.of (Evl.Ex.refl _))) z
theorem ok_looks_at (T : Txt P w K mg a) : FnOk P w K mg base CX0 1 a.f_looks_at a.d_looks_at ["limit", "group"] (sp_looks_at K) := by
  refine T.F_looks_at.ok sc_looks_at (fun vs H Q E h => ?len) (fun cdv A outer s H vs Q E hr h => ?body)
  case len => obtain ⟨p, l, g, rfl, _⟩ := h; rfl
  case body =>
    obtain ⟨p, l, g, rfl, hL, hok, q⟩ := h
    obtain ⟨pg, pn, h1, h2, h3⟩ := hL
    obtain ⟨o1, o2, o3⟩ := hok
    refine ⟨_, (pss_cons (ps_asg (pv 0) (pg_tupK (K := K) rfl rfl (pgs_cons (pg_name (i := 2) sc_looks_at.nd rfl (Or.inl rfl)) (pgs_cons (pg_name (i := 3) sc_looks_at.nd rfl (Or.inl rfl)) (pgs_cons (pg_name (i := 4) sc_looks_at.nd rfl (Or.inl rfl)) (pgs_cons (pg_name (i := 5) sc_looks_at.nd rfl (Or.inl rfl)) pgs_nil))))))
  (pss_cons (ps_if (pt_cmpR op_eq (pv 3) pe_str (nomark _))
   (pss_one (ps_ret (pe_cmpR (op_inK (K := K) rfl) (pv 1) (pe_lc (own := [("share", 6)]) (g := gName 6) (tt := tYes) rfl sc_looks_at.nd (pi_tupK (K := K) rfl (pe_ix (ix_tupK (K := K) rfl) (pv 5) pe_int (fun _ _ => rfl))) (blkOk_by (own := [("share", 6)]) (N := ["limit", "group", "_", "word", "groups", "numbers", "share"]) (sc := defScope s_looks_at) (by decide +kernel)) (fun _ _ _ _ _ => (pg_name (i := 6) sc_looks_at.nd rfl (Or.inl rfl))) (fun _ _ _ _ _ => pts_nil) (fun _ _ _ _ _ => (pe_ix (ix_tupK (K := K) rfl) (pv 6) pe_int (fun _ _ => rfl)))) rfl)))
   pss_nil)
  (pss_one (ps_ret (pe_or (pe_cmpR op_eq (pe_callB (call_lenK (K := K) rfl) (by rfl) T.z_len (by decide +kernel) (pa_cons (pv 4) pa_nil)) pe_int (nomark _)) (pe_one (pe_cmpR (op_inK (K := K) rfl) (pv 1) (pv 4) rfl))))))), ?_⟩
    try dsimp only [cxOf, Cx.nox]
    walk_at "go"
    unfold seesL at q
    cases hn : l.nu with
    | flat ns =>
      rw [hn] at h3 o3 q
      have hp : l.wd ≠ "pool" := by
        rcases o3.1 with ⟨h1, _⟩ | ⟨h1, _⟩ | ⟨h1, _⟩
        · rcases h1 with h1 | h1 | h1 <;> (rw [h1]; decide +kernel)
        · rw [h1]; decide +kernel
        · rw [h1]; decide +kernel
      refine w_dec (fun h => absurd h hp) (fun _ => ?_)
      walk_at "go"
      have hlm : (((l.gs.map V.str).length : Nat) : Int) = (l.gs.length : Int) := by rw [List.length_map]
      refine w_dec (fun h0 => ?_) (fun h0 => ?_)
      · have q1 := q H (Evl.Ex.refl _)
        dsimp only at q1
        rw [decide_eq_true (show l.gs.length = 0 by omega), Bool.true_or] at q1
        exact q1
      · walk_at "go"
        have q1 := q H (Evl.Ex.refl _)
        dsimp only at q1
        rw [decide_eq_false (show ¬ l.gs.length = 0 by omega), Bool.false_or] at q1
        exact q1
    | pool m sh =>
      rw [hn] at h3 o3 q
      obtain ⟨ps, xs, k1, k2, k3, k4⟩ := h3
      obtain ⟨hwd, _, _, hsl, _⟩ := o3
      refine w_dec (fun _ => ?_) (fun h => absurd hwd h)
      have hxl : xs.length ≤ 8 := by
        have := congrArg List.length k3
        rw [List.length_map] at this
        omega
      walk_at "go"
      refine lc_tupA (fun x : Addr × Shr => V.ref x.1) (fun x => V.str x.2.1) (0, "", 0, 0) k2 (by omega) (fun x hx1 H1 e1 R hR => ?_) (fun pm H1 hpm hE1 hA1 => ?_)
      · have k5 := ex_sqT e1 (k4 x hx1)
        walk_at "go"
        exact hR _ (Evl.Ex.refl _)
      have hL2 : SqL K H1 pm ((sh.map (·.1)).map V.str) := .inl (.inl (by rw [hA1, ← k3, List.map_map, List.map_map]; rfl))
      walk_at "go"
      exact q _ hE1
theorem ok_common_of (T : Txt P w K mg a) : FnOk P w K mg base CX0 1 a.f_common_of a.d_common_of ["limit"] (sp_common_of K) := by
  refine T.F_common_of.ok sc_common_of (fun vs H Q E h => ?len) (fun cdv A outer s H vs Q E hr h => ?body)
  case len => obtain ⟨p, nm, most, sh, rfl, _⟩ := h; rfl
  case body =>
    obtain ⟨p, nm, most, sh, rfl, hL, q⟩ := h
    obtain ⟨pg, pn, pt, ads, h1, h2, h3, h4, h5, rfl, h8⟩ := hL
    rw [List.length_map] at h8
    refine ⟨_, (pss_cons (ps_asg (pe_ix (ix_tupK (K := K) rfl) (pv 0) pe_int (fun _ _ => rfl)) (pg_tupK (K := K) rfl rfl (pgs_cons (pg_name (i := 1) sc_common_of.nd rfl (Or.inl rfl)) (pgs_cons (pg_name (i := 2) sc_common_of.nd rfl (Or.inl rfl)) pgs_nil))))
  (pss_one (ps_ret (pe_op op_sub (pv 1) (pe_callB (cr_sumK (K := K) rfl rfl) (by rfl) T.z_sum (by decide +kernel) (pa_cons (pe_lc (own := [("share", 3)]) (g := gName 3) (tt := tYes) rfl sc_common_of.nd (pi_tupK (K := K) rfl (pv 2)) (blkOk_by (own := [("share", 3)]) (N := ["limit", "most", "shares", "share"]) (sc := defScope s_common_of) (by decide +kernel)) (fun _ _ _ _ _ => (pg_name (i := 3) sc_common_of.nd rfl (Or.inl rfl))) (fun _ _ _ _ _ => pts_nil) (fun _ _ _ _ _ => (pe_ix (ix_tupK (K := K) rfl) (pv 3) pe_int (fun _ _ => rfl)))) pa_nil)))))), ?_⟩
    try dsimp only [cxOf, Cx.nox]
    walk_at "go"
    refine lc_filtT (fun x : Addr × S3 => V.ref x.1) (fun _ => true) (fun x => V.int x.2.2.1) h4 (by omega) (fun x hx H2 e2 R N hy hn => ?_) (fun pa H2 hpa hE2 hA2 => ?_)
    · have hSx : SqT K H2 x.1 [.str x.2.1, .int x.2.2.1, .int x.2.2.2] := ex_sqT e2 (h5 x hx)
      walk_at "go"
      unfold tYes
      walk_at "go"
      exact hy rfl _ (Evl.Ex.refl _)
    rw [List.filter_eq_self.mpr (fun _ _ => rfl)] at hA2
    walk_at "go"
    refine g_sum (ns := ads.map fun x => x.2.2.1) (.inl (.inl (by rw [hA2, List.map_map]; rfl))) ?_
    walk_at "go"
    have q1 := q H2 hE2
    unfold ownP at q1
    rw [List.map_map] at q1
    exact q1
theorem ok_share_for (T : Txt P w K mg a) : FnOk P w K mg base CX0 1 a.f_share_for a.d_share_for ["limit", "group"] (sp_share_for K) := by
  refine T.F_share_for.ok sc_share_for (fun vs H Q E h => ?len) (fun cdv A outer s H vs Q E hr h => ?body)
  case len => obtain ⟨p, nm, most, sh, g, rfl, _⟩ := h; rfl
  case body =>
    obtain ⟨p, nm, most, sh, g, rfl, hL, q⟩ := h
    obtain ⟨pg, pn, pt, ads, h1, h2, h3, h4, h5, rfl, h8⟩ := hL
    rw [List.length_map] at h8
    refine ⟨_, (pss_cons (ps_for PassesOwn.never rfl (pi_tupK (K := K) rfl (pe_ix (ix_tupK (K := K) rfl) (pe_ix (ix_tupK (K := K) rfl) (pv 0) pe_int (fun _ _ => rfl)) pe_int (fun _ _ => rfl))) (pg_tupK (K := K) rfl rfl (pgs_cons (pg_name (i := 2) sc_share_for.nd rfl (Or.inl rfl)) (pgs_cons (pg_name (i := 3) sc_share_for.nd rfl (Or.inl rfl)) (pgs_cons (pg_name (i := 4) sc_share_for.nd rfl (Or.inl rfl)) pgs_nil))))
   (pss_one (ps_if (pt_cmpR op_eq (pv 2) (pv 1) (nomark _))
   (pss_one (ps_ret (pe_tup (pa_cons (pv 3) (pa_cons (pv 4) pa_nil)))))
   pss_nil)))
  (pss_one (ps_ret (pe_tup (pa_cons pe_int (pa_cons pe_int pa_nil)))))), ?_⟩
    try dsimp only [cxOf, Cx.nox]
    walk_at "go"
    refine l_it (walk_tup (xs := ads.map fun x => V.ref x.1)) (fun i σ' H' => ∃ v2 v3 v4 : Option V, σ' = [some (.ref p), some (.str g), v2, v3, v4] ∧ Ex H H' ∧ ∀ x ∈ ads.take i, x.2.1 ≠ g) ⟨_, _, _, rfl, Evl.Ex.refl _, (fun x hx => nomatch hx)⟩ (fun i σ' H' hi hP => ?_) (fun i x σ' H1 H2 hi hP hY => ?_) (fun σ' H1 hP => ?_)
    · obtain ⟨_, _, _, _, hE, _⟩ := hP
      exact ex_sqT hE h4
    · obtain ⟨v2, v3, v4, rfl, hE, hb⟩ := hP
      obtain ⟨rfl, hxi⟩ := hY
      obtain ⟨px, r, hxr, rfl⟩ := row_getX hxi
      have hSx : SqT K _ px [.str r.1, .int r.2.1, .int r.2.2] := ex_sqT hE (h5 (px, r) (List.mem_of_getElem? hxr))
      walk_at "go"
      refine w_dec (fun h0 => ?_) (fun h0 => ?_)
      · walk_at "go"
        rename_i p2 hp2
        have q1 := q p2 _ (hE.trans (Evl.Ex.new hp2 (o := .tup [.int r.2.1, .int r.2.2])))
        rw [share_at hb hxr h0] at q1
        exact q1 (.inl (.inl upd_same))
      · walk_at "go"
        refine ⟨_, _, _, rfl, hE, fun y hy => ?_⟩
        rw [List.take_add_one, hxr] at hy
        rcases List.mem_append.mp hy with hy | hy
        · exact hb y hy
        · rw [Option.toList_some, List.mem_singleton] at hy
          rw [hy]
          exact h0
    · obtain ⟨v2, v3, v4, rfl, hE, hb⟩ := hP
      rw [List.length_map, List.take_of_length_le (Nat.le_refl _)] at hb
      walk_at "go"
      rename_i p2 hp2
      have q1 := q p2 _ (hE.trans (Evl.Ex.new hp2 (o := .tup [.int 0, .int 0])))
      rw [share_no (fun s hs => by
        obtain ⟨x, hx, rfl⟩ := List.mem_map.mp hs
        exact hb x hx)] at q1
      exact q1 (.inl (.inl upd_same))
theorem ok_WindowMeter_init (T : Txt P w K mg a) : FnOk P w K mg base CX0 1 a.f_WindowMeter_init a.d_WindowMeter_init ["self", "limit"] (sp_WindowMeter_init K a) := by
  refine T.F_WindowMeter_init.ok sc_WindowMeter_init (fun vs H Q E h => ?len) (fun cdv A outer s H vs Q E hr h => ?body)
  case len => obtain ⟨m, dx, p, lm, s, t, rfl, _⟩ := h; rfl
  case body =>
    obtain ⟨m, dx, p, lm, s0, t, rfl, hm, hL, q⟩ := h
    obtain ⟨⟨pg, pn, h1, h2, h3⟩, hok, hnu⟩ := hL
    rw [hnu] at h3
    have h3 : SqT K H pn [.int s0, .int t] := h3
    have hcl := T.cl_WindowMeter
    have n1 := T.nf_WindowMeter_limit
    have n2 := T.nf_WindowMeter__most
    have n3 := T.nf_WindowMeter__length
    have n4 := T.nf_WindowMeter__sums
    refine ⟨_, (pss_cons (ps_fldK (K := K) rfl (pv 0) (pv 1) rfl)
  (pss_cons (ps_asg (pe_ix (ix_tupK (K := K) rfl) (pv 1) pe_int (fun _ _ => rfl)) (pg_tupK (K := K) rfl rfl (pgs_cons (pg_fldK (K := K) rfl (pv 0)) (pgs_cons (pg_fldK (K := K) rfl (pv 0)) pgs_nil))))
  (pss_one (ps_fldK (K := K) rfl (pv 0) (pe_lst pa_nil) rfl)))), ?_⟩
    try dsimp only [cxOf, Cx.nox]
    walk_at "go"
    refine g_stF1 hm hcl n1 (by decide) ?_
    have e1 : ExP m H (upd H m (.ins a.c_WindowMeter dx (putF "limit" (.ref p) []))) := ExP.upd (ExP.of (Evl.Ex.refl _))
    have k1 := exP_sqT hm e1 h1
    have k3 := exP_sqT hm e1 h3
    walk_at "go"
    refine g_gtupA k3 ?_
    walk_at "go"
    refine g_fldA1 upd_same hcl n2 (by show 1 < 1000; decide) ?_
    walk_at "go"
    refine g_fldA1 upd_same hcl n3 (by show 2 < 1000; decide) ?_
    walk_at "go"
    rename_i pS hpS
    have hpm : pS ≠ m := fun z => by rw [z, upd_same] at hpS; cases hpS
    refine g_stF1 (by rw [upd_ne (Ne.symm hpm)]; exact upd_same) hcl n4 (by show 3 < 1000; decide) ?_
    rw [flW_new]
    have hp0 : H pS = none := by
      rw [upd_ne hpm, upd_ne hpm, upd_ne hpm] at hpS
      exact hpS
    exact q pS _ hp0 (ExP.upd (ExP.trans (ExP.upd (ExP.upd e1)) (ExP.of (Evl.Ex.new hpS)))) upd_same ⟨by rw [upd_ne hpm, upd_same]; rfl, fun x hx => nomatch hx⟩
theorem ok_WindowMeter_sums_since (T : Txt P w K mg a) : FnOk P w K mg base CX0 1 a.f_WindowMeter_sums_since a.d_WindowMeter_sums_since ["self", "moment"] (sp_WindowMeter_sums_since K a) := by
  refine T.F_WindowMeter_sums_since.ok sc_WindowMeter_sums_since (fun vs H Q E h => ?len) (fun cdv A outer s H vs Q E hr h => ?body)
  case len => obtain ⟨m, dx, p, pS, s, t, qs, mo, rfl, _⟩ := h; rfl
  case body =>
    obtain ⟨m, dx, p, pS, s0, t, qs, mo, rfl, hm, hU, hql, q⟩ := h
    have hA := hU.1
    have hcl := T.cl_WindowMeter
    have n1 := T.nf_WindowMeter_limit
    have n2 := T.nf_WindowMeter__most
    have n3 := T.nf_WindowMeter__length
    have n4 := T.nf_WindowMeter__sums
    refine ⟨_, (pss_one (ps_ret (pe_lc (own := [("row", 2)]) (g := gName 2) rfl sc_WindowMeter_sums_since.nd (pi_listK (K := K) rfl (pe_fldK (K := K) rfl (pv 0) rfl)) (blkOk_by (own := [("row", 2)]) (N := ["self", "moment", "row"]) (sc := defScope s_WindowMeter_sums_since) (by decide +kernel)) (fun _ _ _ _ _ => (pg_name (i := 2) sc_WindowMeter_sums_since.nd rfl (Or.inl rfl))) (fun _ _ _ _ _ => (pts_one (pt_cmpR op_gt (pe_ix (ix_tupK (K := K) rfl) (pv 2) pe_int (fun _ _ => rfl)) (pe_op op_sub (pv 1) (pe_fldK (K := K) rfl (pv 0) rfl)) (nomark _)))) (fun _ _ _ _ _ => (pv 2))))), ?_⟩
    try dsimp only [cxOf, Cx.nox]
    walk_at "go"
    refine lc_filt (fun x : Addr × MC => V.ref x.1) (fun x => decide (x.2.1 > mo - t)) (fun x => V.ref x.1) (.inl (.inl hU.1)) (by omega) (fun x hx1 H1 e1 R N hy hn => ?_) (fun pa H1 hpa hE1 hA1 => ?_)
    · have hSx : SqT K H1 x.1 [.int x.2.1, .int x.2.2] := ex_sqT e1 (hU.2 x hx1)
      have hm1 := ex_at e1 hm
      walk_at "go"
      refine w_dec (fun h => ?_) (fun h => ?_)
      · walk_at "go"
        exact hy (decide_eq_true h) _ (Evl.Ex.refl _)
      · exact hn (decide_eq_false h) _ (Evl.Ex.refl _)
    · walk_at "go"
      exact q pa H1 hpa hE1 ⟨hA1, fun x hx => ex_sqT hE1 (hU.2 x (List.mem_filter.mp hx).1)⟩
theorem ok_WindowMeter_room (T : Txt P w K mg a) : FnOk P w K mg base CX0 2 a.f_WindowMeter_room a.d_WindowMeter_room ["self", "moment", "group", "cost"] (sp_WindowMeter_room K a) := by
  refine T.F_WindowMeter_room.ok sc_WindowMeter_room (fun vs H Q E h => ?len) (fun cdv A outer s H vs Q E hr h => ?body)
  case len => obtain ⟨m, dx, p, pS, lm, s, t, qs, mo, g, c, rfl, _⟩ := h; rfl
  case body =>
    obtain ⟨m, dx, p, pS, lm, s0, t, qs, mo, g, c, rfl, hm, hL, ht1, hU, hql, q⟩ := h
    have hcl := T.cl_WindowMeter
    have n1 := T.nf_WindowMeter_limit
    have n2 := T.nf_WindowMeter__most
    have n3 := T.nf_WindowMeter__length
    have n4 := T.nf_WindowMeter__sums
    refine ⟨_, (pss_cons (ps_if (pt_not (pt_val (pe_call (ok_looks_at T) (hr.mono (by decide)) (by rfl) T.g_looks_at T.F_looks_at.kp T.b_looks_at .nil pass0 (pa_cons (pe_fldK (K := K) rfl (pv 0) rfl) (pa_cons (pv 2) pa_nil)))))
   (pss_one (ps_ret pe_bl))
   pss_nil)
  (pss_one (ps_ret (pe_cmpR op_le (pe_op op_add (pe_callB (cr_sumK (K := K) rfl rfl) (by rfl) T.z_sum (by decide +kernel) (pa_cons (pe_lc (own := [("row", 4)]) (g := gName 4) (tt := tYes) rfl sc_WindowMeter_room.nd (pi_listK (K := K) rfl (pe_meth (pv 0) T.cl_WindowMeter T.me_WindowMeter_sums_since (ok_WindowMeter_sums_since T) (hr.mono (by decide)) T.b_WindowMeter_sums_since .nil pass0 (pa_cons (pv 1) pa_nil))) (blkOk_by (own := [("row", 4)]) (N := ["self", "moment", "group", "cost", "row"]) (sc := defScope s_WindowMeter_room) (by decide +kernel)) (fun _ _ _ _ _ => (pg_name (i := 4) sc_WindowMeter_room.nd rfl (Or.inl rfl))) (fun _ _ _ _ _ => pts_nil) (fun _ _ _ _ _ => (pe_ix (ix_tupK (K := K) rfl) (pv 4) pe_int (fun _ _ => rfl)))) pa_nil)) (pv 3)) (pe_fldK (K := K) rfl (pv 0) rfl) (nomark _))))), ?_⟩
    try dsimp only [cxOf, Cx.nox]
    walk_at "go"
    refine ⟨p, lm, g, rfl, hL.1, hL.2.1, fun H1 hE1 => ?_⟩
    have hm1 := ex_at hE1 hm
    walk_at "go"
    cases hs : seesL lm g with
    | false =>
      have q1 := q H1 hE1
      rw [hs] at q1
      walk_at "go"
      exact q1
    | true =>
      walk_at "go"
      refine ⟨m, dx, p, pS, s0, t, qs, mo, rfl, hm1, hU.mono hE1, hql, fun l H2 hl2 hE2 hU2 => ?_⟩
      have hll : (qs.filter fun x => decide (x.2.1 > mo - t)).length ≤ 1000 := Nat.le_trans (List.length_filter_le _ _) hql
      have q1 := fun H' e => q H' (hE1.trans (hE2.trans e))
      rw [hs, live_map, ← sumC_map] at q1
      generalize (qs.filter fun x => decide (x.2.1 > mo - t)) = rs at *
      have hA2 := hU2.1
      walk_at "go"
      refine lc_lst (fun x : Addr × MC => V.ref x.1) (fun x => V.int x.2.2) (0, 0, 0) (.inl (.inl hU2.1)) (by omega) (fun x hx1 H3 e3 R hy => ?_) (fun pa H3 hpa hE3 hA3 => ?_)
      · have hSx : SqT K H3 x.1 [.int x.2.1, .int x.2.2] := ex_sqT e3 (hU2.2 x hx1)
        walk_at "go"
        exact hy _ (Evl.Ex.refl _)
      · have hm3 := ex_at (hE2.trans hE3) hm1
        walk_at "go"
        refine g_sum (ns := rs.map fun x => x.2.2) (.inl (.inl (by rw [hA3, List.map_map]; rfl))) ?_
        walk_at "go"
        exact q1 _ hE3
theorem ok_WindowMeter_earliest (T : Txt P w K mg a) : FnOk P w K mg base CX0 3 a.f_WindowMeter_earliest a.d_WindowMeter_earliest ["self", "moment", "group", "cost"] (sp_WindowMeter_earliest K a) := by
  refine T.F_WindowMeter_earliest.ok sc_WindowMeter_earliest (fun vs H Q E h => ?len) (fun cdv A outer s H vs Q E hr h => ?body)
  case len => obtain ⟨m, dx, p, pS, lm, s, t, qs, mo, g, c, rfl, _⟩ := h; rfl
  case body =>
    obtain ⟨m, dx, p, pS, lm, s0, t, qs, mo, g, c, rfl, hm, hL, ht1, hU, hql, q⟩ := h
    have hcl := T.cl_WindowMeter
    have n1 := T.nf_WindowMeter_limit
    have n2 := T.nf_WindowMeter__most
    have n3 := T.nf_WindowMeter__length
    have n4 := T.nf_WindowMeter__sums
    refine ⟨_, (pss_cons (ps_if (pt_val (pe_meth (pv 0) T.cl_WindowMeter T.me_WindowMeter_room (ok_WindowMeter_room T) (hr.mono (by decide)) T.b_WindowMeter_room .nil pass0 (pa_cons (pv 1) (pa_cons (pv 2) (pa_cons (pv 3) pa_nil)))))
   (pss_one (ps_ret (pv 1)))
   pss_nil)
  (pss_cons (ps_if (pt_cmpR op_gt (pv 3) (pe_fldK (K := K) rfl (pv 0) rfl) (nomark _))
   (pss_one (ps_ret pe_non))
   pss_nil)
  (pss_cons (ps_set (i := 4) sc_WindowMeter_earliest.nd rfl (Or.inl rfl) (pe_meth (pv 0) T.cl_WindowMeter T.me_WindowMeter_sums_since (ok_WindowMeter_sums_since T) (hr.mono (by decide)) T.b_WindowMeter_sums_since .nil pass0 (pa_cons (pv 1) pa_nil)))
  (pss_cons (ps_set (i := 5) sc_WindowMeter_earliest.nd rfl (Or.inl rfl) (pe_callB (cr_sumK (K := K) rfl rfl) (by rfl) T.z_sum (by decide +kernel) (pa_cons (pe_lc (own := [("row", 7)]) (g := gName 7) (tt := tYes) rfl sc_WindowMeter_earliest.nd (pi_listK (K := K) rfl (pv 4)) (blkOk_by (own := [("row", 7)]) (N := ["self", "moment", "group", "cost", "rows", "used", "number", "row"]) (sc := defScope s_WindowMeter_earliest) (by decide +kernel)) (fun _ _ _ _ _ => (pg_name (i := 7) sc_WindowMeter_earliest.nd rfl (Or.inl rfl))) (fun _ _ _ _ _ => pts_nil) (fun _ _ _ _ _ => (pe_ix (ix_tupK (K := K) rfl) (pv 7) pe_int (fun _ _ => rfl)))) pa_nil)))
  (pss_cons (ps_set (i := 6) sc_WindowMeter_earliest.nd rfl (Or.inl rfl) pe_int)
  (pss_cons (ps_while PassesOwn.never (pt_cmpR op_gt (pe_op op_add (pv 5) (pv 3)) (pe_fldK (K := K) rfl (pv 0) rfl) (nomark _))
   (pss_cons (ps_set (i := 5) sc_WindowMeter_earliest.nd rfl (Or.inl rfl) (pe_op op_sub (pv 5) (pe_ix (ix_tupK (K := K) rfl) (pe_ix (ix_listK (K := K) rfl) (pv 4) (pv 6) (fun _ _ => rfl)) pe_int (fun _ _ => rfl))))
  (pss_one (ps_set (i := 6) sc_WindowMeter_earliest.nd rfl (Or.inl rfl) (pe_op op_add (pv 6) pe_int)))))
  (pss_one (ps_ret (pe_op op_add (pe_ix (ix_tupK (K := K) rfl) (pe_ix (ix_listK (K := K) rfl) (pv 4) (pe_op op_sub (pv 6) pe_int) (fun _ _ => rfl)) pe_int (fun _ _ => rfl)) (pe_fldK (K := K) rfl (pv 0) rfl)))))))))), ?_⟩
    try dsimp only [cxOf, Cx.nox]
    walk_at "go"
    refine ⟨m, dx, p, pS, lm, s0, t, qs, mo, g, c, rfl, hm, hL, ht1, hU, hql, fun H1 hE1 => ?_⟩
    have hm1 := ex_at hE1 hm
    have q1 := fun H' (e : Ex H1 H') => q H' (hE1.trans e)
    unfold earlW at q1
    walk_at "go"
    refine w_ite (fun hb => ?_) (fun hb => ?_)
    · walk_at "go"
      have e : (if seesL lm g then (if sumC (live t mo (qs.map (·.2))) + c ≤ s0 then some mo else if c > s0 then none else some (lastGone s0 c (live t mo (qs.map (·.2))) 0 + t)) else some mo) = some mo := by
        cases hs : seesL lm g with
        | false => rfl
        | true =>
          rw [hs] at hb
          rw [if_pos rfl, if_pos (by simpa using hb)]
      have q2 := q1 _ (Evl.Ex.refl _)
      rw [e] at q2
      exact q2
    · have hs : seesL lm g = true := by
        cases hs : seesL lm g with
        | false => rw [hs] at hb; cases hb
        | true => rfl
      rw [hs] at hb
      have hf : ¬ sumC (live t mo (qs.map (·.2))) + c ≤ s0 := by simpa using hb
      rw [hs, if_pos rfl, if_neg hf] at q1
      walk_at "go"
      refine w_dec (fun hc => ?_) (fun hc => ?_)
      · walk_at "go"
        have q2 := q1 _ (Evl.Ex.refl _)
        rw [if_pos hc] at q2
        exact q2
      · rw [if_neg hc] at q1
        walk_at "go"
        refine ⟨m, dx, p, pS, s0, t, qs, mo, rfl, hm1, hU.mono hE1, hql, fun l H2 hl2 hE2 hU2 => ?_⟩
        have hll : (qs.filter fun x => decide (x.2.1 > mo - t)).length ≤ 1000 := Nat.le_trans (List.length_filter_le _ _) hql
        replace q1 := fun H' (e : Ex H2 H') => q1 H' (hE2.trans e)
        rw [live_map] at q1 hf
        generalize (qs.filter fun x => decide (x.2.1 > mo - t)) = rs at *
        have hA2 := hU2.1
        walk_at "go"
        refine lc_lst (fun x : Addr × MC => V.ref x.1) (fun x => V.int x.2.2) (0, 0, 0) (.inl (.inl hU2.1)) (by omega) (fun x hx1 H3 e3 R hy => ?_) (fun pa H3 hpa hE3 hA3 => ?_)
        · have hSx : SqT K H3 x.1 [.int x.2.1, .int x.2.2] := ex_sqT e3 (hU2.2 x hx1)
          walk_at "go"
          exact hy _ (Evl.Ex.refl _)
        have hm3 := ex_at (hE2.trans hE3) hm1
        have hU3 := hU2.mono hE3
        replace q1 := fun H' (e : Ex H3 H') => q1 H' (hE3.trans e)
        walk_at "go"
        refine g_sum (ns := rs.map fun x => x.2.2) (.inl (.inl (by rw [hA3, List.map_map]; rfl))) ?_
        rw [sumC_map]
        clear hU2 hA3 hpa hE3 hE2 hl2 hm1 hE1 hU hL hm q
        walk_at "go"
        refine l_while (fun k σ' H' => ∃ (n : Nat) (x : Int), σ' = [some (.ref m), some (.int mo), some (.str g), some (.int c), some (.ref l), some (.int (sumC ((rs.map (·.2)).drop n))), some (.int (n : Int)), none] ∧ H' = H3 ∧ k + n = rs.length ∧ lastGone s0 c (rs.map (·.2)) 0 = lastGone s0 c ((rs.map (·.2)).drop n) x ∧ (n = 0 ∨ ∃ pr r, rs[n - 1]? = some (pr, r) ∧ x = r.1)) rs.length ⟨0, 0, rfl, rfl, rfl, rfl, .inl rfl⟩ (fun k σ' H' hW => ?_)
        obtain ⟨n, x, rfl, rfl, hk, hg, hn⟩ := hW
        refine ⟨decide (sumC ((rs.map (·.2)).drop n) + c > s0), fun QB hQ => ?_, fun hb => ?_, fun hb => ?_⟩
        · walk_at "go"
          exact hQ
        · have hgt := of_decide_eq_true hb
          have hlt : n < rs.length := by
            refine Nat.lt_of_not_le fun hle => ?_
            rw [List.drop_eq_nil_of_le (by rw [List.length_map]; exact hle)] at hgt
            have : sumC ([] : List MC) = 0 := rfl
            omega
          have hget : rs[n]? = some (rs[n].1, rs[n].2) := List.getElem?_eq_getElem hlt
          have hgm : (rs.map (·.2))[n]? = some rs[n].2 := by rw [List.getElem?_map, hget]; rfl
          have hix : atI (rs.map fun x => V.ref x.1) (n : Int) = some (.ref rs[n].1) := atI_nat (by rw [List.getElem?_map, hget]; rfl)
          have hSx : SqT K H' rs[n].1 [.int rs[n].2.1, .int rs[n].2.2] := hU3.2 (rs[n].1, rs[n].2) (List.mem_of_getElem? hget)
          obtain ⟨g1, g2⟩ := gone_step (x := x) (s := s0) (c := c) hgm (by omega)
          generalize rs[n] = pr at *
          walk_at "go"
          refine g_ixL (.inl (.inl hU3.1)) hix ?_
          walk_at "go"
          rw [g2]
          exact ⟨k - 1, by omega, n + 1, pr.2.1, rfl, rfl, by omega, hg.trans g1, .inr ⟨pr.1, pr.2, hget, rfl⟩⟩
        · have hle : sumC ((rs.map (·.2)).drop n) + c ≤ s0 := by
            have := of_decide_eq_false hb
            omega
          rw [gone_end hle] at hg
          rcases hn with e0 | ⟨pr, r, hpr, rfl⟩
          · rw [e0, List.drop_zero] at hle
            exact absurd hle hf
          · have hn0 : n ≠ 0 := fun e0 => by
              rw [e0, List.drop_zero] at hle
              exact hf hle
            have e1 : (n : Int) - 1 = ((n - 1 : Nat) : Int) := by omega
            have hix : atI (rs.map fun x => V.ref x.1) ((n : Int) - 1) = some (.ref pr) := by rw [e1]; exact atI_nat (by rw [List.getElem?_map, hpr]; rfl)
            have hSx : SqT K H' pr [.int r.1, .int r.2] := hU3.2 (pr, r) (List.mem_of_getElem? hpr)
            walk_at "go"
            refine g_ixL (.inl (.inl hU3.1)) hix ?_
            walk_at "go"
            have q2 := q1 _ (Evl.Ex.refl _)
            rw [hg] at q2
            exact q2
theorem ok_WindowMeter_let (T : Txt P w K mg a) : FnOk P w K mg base CX0 2 a.f_WindowMeter_let a.d_WindowMeter_let ["self", "moment", "group", "cost", "key"] (sp_WindowMeter_let K a) := by
  refine T.F_WindowMeter_let.ok sc_WindowMeter_let (fun vs H Q E h => ?len) (fun cdv A outer s H vs Q E hr h => ?body)
  case len => obtain ⟨m, dx, p, pS, lm, s, t, qs, mo, g, c, k, rfl, _⟩ := h; rfl
  case body =>
    obtain ⟨m, dx, p, pS, lm, s0, t, qs, mo, g, c, k, rfl, hm, hL, ht1, hU, hql, q⟩ := h
    have hcl := T.cl_WindowMeter
    have n1 := T.nf_WindowMeter_limit
    have n2 := T.nf_WindowMeter__most
    have n3 := T.nf_WindowMeter__length
    have n4 := T.nf_WindowMeter__sums
    refine ⟨_, (pss_one (ps_if (pt_val (pe_call (ok_looks_at T) (hr.mono (by decide)) (by rfl) T.g_looks_at T.F_looks_at.kp T.b_looks_at .nil pass0 (pa_cons (pe_fldK (K := K) rfl (pv 0) rfl) (pa_cons (pv 2) pa_nil))))
   (pss_cons (ps_set (i := 5) sc_WindowMeter_let.nd rfl (Or.inl rfl) (pe_meth (pv 0) T.cl_WindowMeter T.me_WindowMeter_sums_since (ok_WindowMeter_sums_since T) (hr.mono (by decide)) T.b_WindowMeter_sums_since .nil pass0 (pa_cons (pv 1) pa_nil)))
  (pss_cons (ps_if (PW.pt (pw_and (pt_truthK (K := K) rfl (pv 5) (by intro _; rfl)) (pw_and1 (pt_cmpR op_eq (pe_ix (ix_tupK (K := K) rfl) (pe_ix (ix_listK (K := K) rfl) (pv 5) (pe_un un_neg pe_int) (fun _ _ => rfl)) pe_int (fun _ _ => rfl)) (pv 1) (nomark _)))))
   (pss_one (ps_set (i := 3) sc_WindowMeter_let.nd rfl (Or.inl rfl) (pe_op op_add (pv 3) (pe_ix (ix_tupK (K := K) rfl) (pe_bm0K (K := K) rfl PySem.F.plainAttrs_list PySem.F.slot_list_pop PySem.F.type_list_pop mt_pop (pv 5)) pe_int (fun _ _ => rfl)))))
   pss_nil)
  (pss_one (ps_fldK (K := K) rfl (pv 0) (pe_op op_cat (pv 5) (pe_lst (pa_cons (pe_tup (pa_cons (pv 1) (pa_cons (pv 3) pa_nil))) pa_nil))) rfl))))
   pss_nil)), ?_⟩
    try dsimp only [cxOf, Cx.nox]
    walk_at "go"
    refine ⟨p, lm, g, rfl, hL.1, hL.2.1, fun H1 hE1 => ?_⟩
    have hm1 := ex_at hE1 hm
    walk_at "go"
    refine w_ite (fun h0 => ?_) (fun h0 => ?_)
    · rw [if_pos h0] at q
      walk_at "go"
      refine ⟨m, dx, p, pS, s0, t, qs, mo, rfl, hm1, hU.mono hE1, hql, fun l H2 hl2 hE2 hU2 => ?_⟩
      have hll : (qs.filter fun x => decide (x.2.1 > mo - t)).length ≤ qs.length := List.length_filter_le _ _
      have hA2 := hU2.1
      unfold letW at q
      rw [live_map] at q
      generalize (qs.filter fun x => decide (x.2.1 > mo - t)) = rs at *
      have hm2 := ex_at hE2 hm1
      have hE12 := hE1.trans hE2
      rcases List.eq_nil_or_concat rs with e0 | ⟨ini, lst, e0⟩
      · subst e0
        walk_at "go"
        refine ⟨_, .inl ⟨_, .inl (.inl hA2), rfl⟩, ?_⟩
        rw [show (!(([] : List (Addr × MC)).map fun x => V.ref x.1).isEmpty) = false from rfl]
        walk_at "go"
        rename_i pt hpt pl hpl pc hpc
        have e1 := (Evl.Ex.new hpt (o := .tup [.int mo, .int c])).trans (Evl.Ex.new hpl (o := .lst [.ref pt]))
        have e2 := e1.trans (Evl.Ex.new hpc (o := .lst ([] ++ [.ref pt])))
        refine letW_end (rs2 := [(pt, (mo, c))]) hcl n4 (ex_at e2 hm2) upd_same (fun x hx => ?_) fun H' eP hm' hU' => q pc _ _ (.inr (ex_free (hE12.trans e1) hpc)) ((ExP.of (hE12.trans e2)).trans eP) hm' hU' (by show 1 ≤ _; omega) rfl
        rw [List.mem_singleton] at hx
        subst hx
        exact ex_sqT (Evl.Ex.new hpc) (ex_sqT (Evl.Ex.new hpl) (.inl (.inl upd_same)))
      · rw [List.concat_eq_append] at e0
        subst e0
        obtain ⟨pr, r⟩ := lst
        rw [List.map_append, show (List.map (fun x : Addr × MC => x.2) [(pr, r)]) = [r] from rfl, List.getLast?_concat, List.dropLast_concat] at q
        dsimp only at q
        rw [List.map_append, show (List.map (fun x : Addr × MC => V.ref x.1) [(pr, r)]) = [V.ref pr] from rfl] at hA2
        have hSx : SqT K H2 pr [.int r.1, .int r.2] := hU2.2 (pr, r) (List.mem_append_right _ (.head _))
        rw [List.length_append] at hll
        change ini.length + 1 ≤ qs.length at hll
        walk_at "go"
        refine ⟨_, .inl ⟨_, .inl (.inl hA2), rfl⟩, ?_⟩
        rw [show (!((ini.map fun x => V.ref x.1) ++ [V.ref pr]).isEmpty) = true by cases ini <;> rfl]
        walk_at "go"
        refine g_ixL (.inl (.inl hA2)) (atI_last _ _) ?_
        walk_at "go"
        refine w_dec (fun hmo => ?_) (fun hmo => ?_)
        · rw [if_pos hmo] at q
          walk_at "go"
          refine g_popL hA2 ?_
          have hlm : l ≠ m := fun z => by rw [z, hm2] at hA2; cases hA2
          have hm3 : (upd H2 l (.lst (ini.map fun x => V.ref x.1))) m = some (.ins a.c_WindowMeter dx (flW p s0 t pS)) := by rw [upd_ne (Ne.symm hlm)]; exact hm2
          have hA3 : (upd H2 l (.lst (ini.map fun x => V.ref x.1))) l = some (.lst (ini.map fun x => V.ref x.1)) := upd_same
          have hS3 := sqT_lst (o := .lst (ini.map fun x => V.ref x.1)) hA2 hSx
          have hE3 : Ex H (upd H2 l (.lst (ini.map fun x => V.ref x.1))) := Evl.Ex.mut hE12 (ex_free hE1 hl2)
          have hI3 : ∀ x ∈ ini, SqT K (upd H2 l (.lst (ini.map fun x => V.ref x.1))) x.1 [.int x.2.1, .int x.2.2] := fun x hx => sqT_lst hA2 (hU2.2 x (List.mem_append_left _ hx))
          generalize upd H2 l (.lst (ini.map fun x => V.ref x.1)) = H3 at *
          walk_at "go"
          rename_i pt hpt pl hpl pc hpc
          have e1 := (Evl.Ex.new hpt (o := .tup [.int mo, .int (c + r.2)])).trans (Evl.Ex.new hpl (o := .lst [.ref pt]))
          have e2 := e1.trans (Evl.Ex.new hpc (o := .lst ((ini.map fun x => V.ref x.1) ++ [.ref pt])))
          refine letW_end (rs2 := ini ++ [(pt, (mo, (c + r.2)))]) hcl n4 (ex_at e2 hm3) (by rw [upd_same, List.map_append]; rfl) (fun x hx => ?_) fun H' eP hm' hU' => q pc _ _ (.inr (ex_free (hE3.trans e1) hpc)) ((ExP.of (hE3.trans e2)).trans eP) hm' hU' (by rw [List.length_append]; show _ + 1 ≤ _; omega) (by rw [List.map_append]; rfl)
          rcases List.mem_append.mp hx with hx | hx
          · exact ex_sqT e2 (hI3 x hx)
          · rw [List.mem_singleton] at hx
            subst hx
            exact ex_sqT (Evl.Ex.new hpc) (ex_sqT (Evl.Ex.new hpl) (.inl (.inl upd_same)))
        · rw [if_neg hmo] at q
          walk_at "go"
          rename_i pt hpt pl hpl pc hpc
          have e1 := (Evl.Ex.new hpt (o := .tup [.int mo, .int c])).trans (Evl.Ex.new hpl (o := .lst [.ref pt]))
          have e2 := e1.trans (Evl.Ex.new hpc (o := .lst (((ini.map fun x => V.ref x.1) ++ [V.ref pr]) ++ [.ref pt])))
          refine letW_end (rs2 := (ini ++ [(pr, r)]) ++ [(pt, (mo, c))]) hcl n4 (ex_at e2 hm2) (by rw [upd_same, List.map_append]; try rw [List.map_append]; rfl) (fun x hx => ?_) fun H' eP hm' hU' => q pc _ _ (.inr (ex_free (hE12.trans e1) hpc)) ((ExP.of (hE12.trans e2)).trans eP) hm' hU' (by simp only [List.length_append, List.length_cons, List.length_nil]; omega) (by rw [List.map_append]; try rw [List.map_append]; rfl)
          rcases List.mem_append.mp hx with hx | hx
          · exact ex_sqT e2 (hU2.2 x hx)
          · rw [List.mem_singleton] at hx
            subst hx
            exact ex_sqT (Evl.Ex.new hpc) (ex_sqT (Evl.Ex.new hpl) (.inl (.inl upd_same)))
    · walk_at "go"
      exact q pS qs _ (.inl rfl) (ExP.of hE1) hm1 (hU.mono hE1) (by omega) (by rw [if_neg (by rw [h0]; decide)])
theorem ok_SpanMeter_init (T : Txt P w K mg a) : FnOk P w K mg base CX0 1 a.f_SpanMeter_init a.d_SpanMeter_init ["self", "limit"] (sp_SpanMeter_init K a) := by
  refine T.F_SpanMeter_init.ok sc_SpanMeter_init (fun vs H Q E h => ?len) (fun cdv A outer s H vs Q E hr h => ?body)
  case len => obtain ⟨m, dx, p, lm, s, t, rfl, _⟩ := h; rfl
  case body =>
    obtain ⟨m, dx, p, lm, s0, t, rfl, hm, hL, q⟩ := h
    obtain ⟨⟨pg, pn, h1, h2, h3⟩, hok, hnu⟩ := hL
    rw [hnu] at h3
    have h3 : SqT K H pn [.int s0, .int t] := h3
    have hcl := T.cl_SpanMeter
    have n1 := T.nf_SpanMeter_limit
    have n2 := T.nf_SpanMeter__most
    have n3 := T.nf_SpanMeter__length
    have n4 := T.nf_SpanMeter__span
    have n5 := T.nf_SpanMeter__used
    refine ⟨_, (pss_cons (ps_fldK (K := K) rfl (pv 0) (pv 1) rfl)
  (pss_cons (ps_asg (pe_ix (ix_tupK (K := K) rfl) (pv 1) pe_int (fun _ _ => rfl)) (pg_tupK (K := K) rfl rfl (pgs_cons (pg_fldK (K := K) rfl (pv 0)) (pgs_cons (pg_fldK (K := K) rfl (pv 0)) pgs_nil))))
  (pss_cons (ps_fldK (K := K) rfl (pv 0) pe_int rfl)
  (pss_one (ps_fldK (K := K) rfl (pv 0) pe_int rfl))))), ?_⟩
    try dsimp only [cxOf, Cx.nox]
    walk_at "go"
    refine g_stF1 hm hcl n1 (by decide) ?_
    have e1 : ExP m H (upd H m (.ins a.c_SpanMeter dx (putF "limit" (.ref p) []))) := ExP.upd (ExP.of (Evl.Ex.refl _))
    have k1 := exP_sqT hm e1 h1
    have k3 := exP_sqT hm e1 h3
    walk_at "go"
    refine g_gtupA k3 ?_
    walk_at "go"
    refine g_fldA1 upd_same hcl n2 (by show 1 < 1000; decide) ?_
    walk_at "go"
    refine g_fldA1 upd_same hcl n3 (by show 2 < 1000; decide) ?_
    walk_at "go"
    refine g_stF1 upd_same hcl n4 (by show 3 < 1000; decide) ?_
    walk_at "go"
    refine g_stF1 upd_same hcl n5 (by show 4 < 1000; decide) ?_
    rw [flS_new]
    exact q _ (ExP.upd (ExP.upd (ExP.upd (ExP.upd e1)))) upd_same
theorem ok_SpanMeter_used_in (T : Txt P w K mg a) : FnOk P w K mg base CX0 1 a.f_SpanMeter_used_in a.d_SpanMeter_used_in ["self", "moment"] (sp_SpanMeter_used_in K a) := by
  refine T.F_SpanMeter_used_in.ok sc_SpanMeter_used_in (fun vs H Q E h => ?len) (fun cdv A outer s H vs Q E hr h => ?body)
  case len => obtain ⟨m, dx, p, s, t, sp, us, mo, rfl, _⟩ := h; rfl
  case body =>
    obtain ⟨m, dx, p, s0, t, sp, us, mo, rfl, hm, ht1, ht2, q⟩ := h
    have hcl := T.cl_SpanMeter
    have n1 := T.nf_SpanMeter_limit
    have n2 := T.nf_SpanMeter__most
    have n3 := T.nf_SpanMeter__length
    have n4 := T.nf_SpanMeter__span
    have n5 := T.nf_SpanMeter__used
    refine ⟨_, (pss_one (ps_ret (pe_ifExp (pt_cmpR op_eq (pe_op op_fdiv (pv 1) (pe_fldK (K := K) rfl (pv 0) rfl)) (pe_fldK (K := K) rfl (pv 0) rfl) (nomark _)) (pe_fldK (K := K) rfl (pv 0) rfl) pe_int))), ?_⟩
    try dsimp only [cxOf, Cx.nox]
    walk_at "go"
    refine w_dec (fun h => ?_) (fun h => ?_)
    · walk_at "go"
      unfold usedS at q
      rw [if_pos h] at q
      exact q
    · walk_at "go"
      unfold usedS at q
      rw [if_neg h] at q
      exact q
theorem ok_SpanMeter_room (T : Txt P w K mg a) : FnOk P w K mg base CX0 2 a.f_SpanMeter_room a.d_SpanMeter_room ["self", "moment", "group", "cost"] (sp_SpanMeter_room K a) := by
  refine T.F_SpanMeter_room.ok sc_SpanMeter_room (fun vs H Q E h => ?len) (fun cdv A outer s H vs Q E hr h => ?body)
  case len => obtain ⟨m, dx, p, lm, s, t, sp, us, mo, g, c, rfl, _⟩ := h; rfl
  case body =>
    obtain ⟨m, dx, p, lm, s0, t, sp, us, mo, g, c, rfl, hm, hL, ht1, ht2, q⟩ := h
    have hcl := T.cl_SpanMeter
    have n1 := T.nf_SpanMeter_limit
    have n2 := T.nf_SpanMeter__most
    have n3 := T.nf_SpanMeter__length
    have n4 := T.nf_SpanMeter__span
    have n5 := T.nf_SpanMeter__used
    refine ⟨_, (pss_one (ps_ret (pe_or (pe_not (pe_call (ok_looks_at T) (hr.mono (by decide)) (by rfl) T.g_looks_at T.F_looks_at.kp T.b_looks_at .nil pass0 (pa_cons (pe_fldK (K := K) rfl (pv 0) rfl) (pa_cons (pv 2) pa_nil)))) (pe_one (pe_cmpR op_le (pe_op op_add (pe_meth (pv 0) T.cl_SpanMeter T.me_SpanMeter_used_in (ok_SpanMeter_used_in T) (hr.mono (by decide)) T.b_SpanMeter_used_in .nil pass0 (pa_cons (pv 1) pa_nil)) (pv 3)) (pe_fldK (K := K) rfl (pv 0) rfl) (nomark _)))))), ?_⟩
    try dsimp only [cxOf, Cx.nox]
    walk_at "go"
    refine ⟨p, lm, g, rfl, hL.1, hL.2.1, fun H1 hE1 => ?_⟩
    have hm1 := ex_at hE1 hm
    have q1 := q H1 hE1
    walk_at "go"
    cases hs : seesL lm g with
    | false =>
      rw [hs] at q1
      walk_at "go"
      exact q1
    | true =>
      rw [hs] at q1
      walk_at "go"
      refine ⟨m, dx, p, s0, t, sp, us, mo, rfl, hm1, ht1, ht2, ?_⟩
      walk_at "go"
      exact q1
theorem ok_SpanMeter_earliest (T : Txt P w K mg a) : FnOk P w K mg base CX0 3 a.f_SpanMeter_earliest a.d_SpanMeter_earliest ["self", "moment", "group", "cost"] (sp_SpanMeter_earliest K a) := by
  refine T.F_SpanMeter_earliest.ok sc_SpanMeter_earliest (fun vs H Q E h => ?len) (fun cdv A outer s H vs Q E hr h => ?body)
  case len => obtain ⟨m, dx, p, lm, s, t, sp, us, mo, g, c, rfl, _⟩ := h; rfl
  case body =>
    obtain ⟨m, dx, p, lm, s0, t, sp, us, mo, g, c, rfl, hm, hL, ht1, ht2, q⟩ := h
    have hcl := T.cl_SpanMeter
    have n1 := T.nf_SpanMeter_limit
    have n2 := T.nf_SpanMeter__most
    have n3 := T.nf_SpanMeter__length
    have n4 := T.nf_SpanMeter__span
    have n5 := T.nf_SpanMeter__used
    refine ⟨_, (pss_cons (ps_if (pt_val (pe_meth (pv 0) T.cl_SpanMeter T.me_SpanMeter_room (ok_SpanMeter_room T) (hr.mono (by decide)) T.b_SpanMeter_room .nil pass0 (pa_cons (pv 1) (pa_cons (pv 2) (pa_cons (pv 3) pa_nil)))))
   (pss_one (ps_ret (pv 1)))
   pss_nil)
  (pss_cons (ps_if (pt_cmpR op_gt (pv 3) (pe_fldK (K := K) rfl (pv 0) rfl) (nomark _))
   (pss_one (ps_ret pe_non))
   pss_nil)
  (pss_one (ps_ret (pe_op op_mul (pe_op op_add (pe_op op_fdiv (pv 1) (pe_fldK (K := K) rfl (pv 0) rfl)) pe_int) (pe_fldK (K := K) rfl (pv 0) rfl)))))), ?_⟩
    try dsimp only [cxOf, Cx.nox]
    walk_at "go"
    refine ⟨m, dx, p, lm, s0, t, sp, us, mo, g, c, rfl, hm, hL, ht1, ht2, fun H1 hE1 => ?_⟩
    have hm1 := ex_at hE1 hm
    have q1 := q H1 hE1
    unfold earlS at q1
    walk_at "go"
    refine w_ite (fun hb => ?_) (fun hb => ?_)
    · walk_at "go"
      have e : (if seesL lm g then (if usedS t sp us mo + c ≤ s0 then some mo else if c > s0 then none else some ((mo / t + 1) * t)) else some mo) = some mo := by
        cases hs : seesL lm g with
        | false => rfl
        | true =>
          rw [hs] at hb
          rw [if_pos rfl, if_pos (by simpa using hb)]
      rw [e] at q1
      exact q1
    · have hs : seesL lm g = true := by
        cases hs : seesL lm g with
        | false => rw [hs] at hb; cases hb
        | true => rfl
      rw [hs] at hb
      have hf : ¬ usedS t sp us mo + c ≤ s0 := by simpa using hb
      rw [hs, if_pos rfl, if_neg hf] at q1
      walk_at "go"
      refine w_dec (fun hc => ?_) (fun hc => ?_)
      · walk_at "go"
        rw [if_pos hc] at q1
        exact q1
      · rw [if_neg hc] at q1
        walk_at "go"
        exact q1
theorem ok_SpanMeter_let (T : Txt P w K mg a) : FnOk P w K mg base CX0 2 a.f_SpanMeter_let a.d_SpanMeter_let ["self", "moment", "group", "cost", "key"] (sp_SpanMeter_let K a) := by
  refine T.F_SpanMeter_let.ok sc_SpanMeter_let (fun vs H Q E h => ?len) (fun cdv A outer s H vs Q E hr h => ?body)
  case len => obtain ⟨m, dx, p, lm, s, t, sp, us, mo, g, c, k, rfl, _⟩ := h; rfl
  case body =>
    obtain ⟨m, dx, p, lm, s0, t, sp, us, mo, g, c, k, rfl, hm, hL, ht1, ht2, q⟩ := h
    have hcl := T.cl_SpanMeter
    have n1 := T.nf_SpanMeter_limit
    have n2 := T.nf_SpanMeter__most
    have n3 := T.nf_SpanMeter__length
    have n4 := T.nf_SpanMeter__span
    have n5 := T.nf_SpanMeter__used
    refine ⟨_, (pss_one (ps_if (pt_val (pe_call (ok_looks_at T) (hr.mono (by decide)) (by rfl) T.g_looks_at T.F_looks_at.kp T.b_looks_at .nil pass0 (pa_cons (pe_fldK (K := K) rfl (pv 0) rfl) (pa_cons (pv 2) pa_nil))))
   (pss_cons (ps_fldK (K := K) rfl (pv 0) (pe_op op_add (pe_meth (pv 0) T.cl_SpanMeter T.me_SpanMeter_used_in (ok_SpanMeter_used_in T) (hr.mono (by decide)) T.b_SpanMeter_used_in .nil pass0 (pa_cons (pv 1) pa_nil)) (pv 3)) rfl)
  (pss_one (ps_fldK (K := K) rfl (pv 0) (pe_op op_fdiv (pv 1) (pe_fldK (K := K) rfl (pv 0) rfl)) rfl)))
   pss_nil)), ?_⟩
    try dsimp only [cxOf, Cx.nox]
    walk_at "go"
    refine ⟨p, lm, g, rfl, hL.1, hL.2.1, fun H1 hE1 => ?_⟩
    have hm1 := ex_at hE1 hm
    walk_at "go"
    refine w_ite (fun h0 => ?_) (fun h0 => ?_)
    · walk_at "go"
      refine ⟨m, dx, p, s0, t, sp, us, mo, rfl, hm1, ht1, ht2, ?_⟩
      walk_at "go"
      refine g_stF1 hm1 hcl n5 (by show 5 < 1000; decide) ?_
      rw [flS_used]
      have hm2 : (upd H1 m (.ins a.c_SpanMeter dx (flS p s0 t sp (usedS t sp us mo + c)))) m = some (.ins a.c_SpanMeter dx (flS p s0 t sp (usedS t sp us mo + c))) := upd_same
      walk_at "go"
      refine g_stF1 upd_same hcl n4 (by show 5 < 1000; decide) ?_
      rw [flS_span]
      exact q _ (ExP.upd (ExP.upd (ExP.of hE1))) (by rw [upd_same, if_pos h0])
    · walk_at "go"
      exact q _ (ExP.of hE1) (by rw [hm1, if_neg (by rw [h0]; decide)])
theorem ok_BucketMeter_init (T : Txt P w K mg a) : FnOk P w K mg base CX0 1 a.f_BucketMeter_init a.d_BucketMeter_init ["self", "limit"] (sp_BucketMeter_init K a) := by
  refine T.F_BucketMeter_init.ok sc_BucketMeter_init (fun vs H Q E h => ?len) (fun cdv A outer s H vs Q E hr h => ?body)
  case len => obtain ⟨m, dx, p, lm, s, t, rfl, _⟩ := h; rfl
  case body =>
    obtain ⟨m, dx, p, lm, s0, t, rfl, hm, hL, q⟩ := h
    obtain ⟨⟨pg, pn, h1, h2, h3⟩, hok, hnu⟩ := hL
    rw [hnu] at h3
    have h3 : SqT K H pn [.int s0, .int t] := h3
    have hcl := T.cl_BucketMeter
    have n1 := T.nf_BucketMeter_limit
    have n2 := T.nf_BucketMeter__size
    have n3 := T.nf_BucketMeter__every
    have n4 := T.nf_BucketMeter__missing
    have n5 := T.nf_BucketMeter__moment
    refine ⟨_, (pss_cons (ps_fldK (K := K) rfl (pv 0) (pv 1) rfl)
  (pss_cons (ps_asg (pe_ix (ix_tupK (K := K) rfl) (pv 1) pe_int (fun _ _ => rfl)) (pg_tupK (K := K) rfl rfl (pgs_cons (pg_fldK (K := K) rfl (pv 0)) (pgs_cons (pg_fldK (K := K) rfl (pv 0)) pgs_nil))))
  (pss_cons (ps_fldK (K := K) rfl (pv 0) pe_int rfl)
  (pss_one (ps_fldK (K := K) rfl (pv 0) pe_int rfl))))), ?_⟩
    try dsimp only [cxOf, Cx.nox]
    walk_at "go"
    refine g_stF1 hm hcl n1 (by decide) ?_
    have e1 : ExP m H (upd H m (.ins a.c_BucketMeter dx (putF "limit" (.ref p) []))) := ExP.upd (ExP.of (Evl.Ex.refl _))
    have k1 := exP_sqT hm e1 h1
    have k3 := exP_sqT hm e1 h3
    walk_at "go"
    refine g_gtupA k3 ?_
    walk_at "go"
    refine g_fldA1 upd_same hcl n2 (by show 1 < 1000; decide) ?_
    walk_at "go"
    refine g_fldA1 upd_same hcl n3 (by show 2 < 1000; decide) ?_
    walk_at "go"
    refine g_stF1 upd_same hcl n4 (by show 3 < 1000; decide) ?_
    walk_at "go"
    refine g_stF1 upd_same hcl n5 (by show 4 < 1000; decide) ?_
    rw [flB_new]
    exact q _ (ExP.upd (ExP.upd (ExP.upd (ExP.upd e1)))) upd_same
theorem ok_BucketMeter_missing_at (T : Txt P w K mg a) : FnOk P w K mg base CX0 1 a.f_BucketMeter_missing_at a.d_BucketMeter_missing_at ["self", "moment"] (sp_BucketMeter_missing_at K a) := by
  refine T.F_BucketMeter_missing_at.ok sc_BucketMeter_missing_at (fun vs H Q E h => ?len) (fun cdv A outer s H vs Q E hr h => ?body)
  case len => obtain ⟨m, dx, p, s, t, sp, us, mo, rfl, _⟩ := h; rfl
  case body =>
    obtain ⟨m, dx, p, s0, t, sp, us, mo, rfl, hm, q⟩ := h
    have hcl := T.cl_BucketMeter
    have n1 := T.nf_BucketMeter_limit
    have n2 := T.nf_BucketMeter__size
    have n3 := T.nf_BucketMeter__every
    have n4 := T.nf_BucketMeter__missing
    have n5 := T.nf_BucketMeter__moment
    refine ⟨_, (pss_one (ps_ret (pe_callB (call_max2N rfl) (by rfl) T.z_max (by decide +kernel) (pa_cons pe_int (pa_cons (pe_op op_sub (pe_fldK (K := K) rfl (pv 0) rfl) (pe_op op_sub (pv 1) (pe_fldK (K := K) rfl (pv 0) rfl))) pa_nil))))), ?_⟩
    try dsimp only [cxOf, Cx.nox]
    walk_at "go"
    exact q
theorem ok_BucketMeter_too_much (T : Txt P w K mg a) : FnOk P w K mg base CX0 2 a.f_BucketMeter_too_much a.d_BucketMeter_too_much ["self", "moment", "cost"] (sp_BucketMeter_too_much K a) := by
  refine T.F_BucketMeter_too_much.ok sc_BucketMeter_too_much (fun vs H Q E h => ?len) (fun cdv A outer s H vs Q E hr h => ?body)
  case len => obtain ⟨m, dx, p, s, t, sp, us, mo, c, rfl, _⟩ := h; rfl
  case body =>
    obtain ⟨m, dx, p, s0, t, sp, us, mo, c, rfl, hm, ht1, ht2, q⟩ := h
    have hcl := T.cl_BucketMeter
    have n1 := T.nf_BucketMeter_limit
    have n2 := T.nf_BucketMeter__size
    have n3 := T.nf_BucketMeter__every
    have n4 := T.nf_BucketMeter__missing
    have n5 := T.nf_BucketMeter__moment
    refine ⟨_, (pss_one (ps_ret (pe_op op_sub (pe_op op_add (pe_meth (pv 0) T.cl_BucketMeter T.me_BucketMeter_missing_at (ok_BucketMeter_missing_at T) (hr.mono (by decide)) T.b_BucketMeter_missing_at .nil pass0 (pa_cons (pv 1) pa_nil)) (pe_op op_mul (pe_fldK (K := K) rfl (pv 0) rfl) (pv 2))) (pe_op op_mul (pe_fldK (K := K) rfl (pv 0) rfl) (pe_fldK (K := K) rfl (pv 0) rfl))))), ?_⟩
    try dsimp only [cxOf, Cx.nox]
    walk_at "go"
    refine ⟨m, dx, p, s0, t, sp, us, mo, rfl, hm, ?_⟩
    walk_at "go"
    exact q
theorem ok_BucketMeter_room (T : Txt P w K mg a) : FnOk P w K mg base CX0 3 a.f_BucketMeter_room a.d_BucketMeter_room ["self", "moment", "group", "cost"] (sp_BucketMeter_room K a) := by
  refine T.F_BucketMeter_room.ok sc_BucketMeter_room (fun vs H Q E h => ?len) (fun cdv A outer s H vs Q E hr h => ?body)
  case len => obtain ⟨m, dx, p, lm, s, t, sp, us, mo, g, c, rfl, _⟩ := h; rfl
  case body =>
    obtain ⟨m, dx, p, lm, s0, t, sp, us, mo, g, c, rfl, hm, hL, ht1, ht2, q⟩ := h
    have hcl := T.cl_BucketMeter
    have n1 := T.nf_BucketMeter_limit
    have n2 := T.nf_BucketMeter__size
    have n3 := T.nf_BucketMeter__every
    have n4 := T.nf_BucketMeter__missing
    have n5 := T.nf_BucketMeter__moment
    refine ⟨_, (pss_one (ps_ret (pe_or (pe_not (pe_call (ok_looks_at T) (hr.mono (by decide)) (by rfl) T.g_looks_at T.F_looks_at.kp T.b_looks_at .nil pass0 (pa_cons (pe_fldK (K := K) rfl (pv 0) rfl) (pa_cons (pv 2) pa_nil)))) (pe_one (pe_cmpR op_le (pe_meth (pv 0) T.cl_BucketMeter T.me_BucketMeter_too_much (ok_BucketMeter_too_much T) (hr.mono (by decide)) T.b_BucketMeter_too_much .nil pass0 (pa_cons (pv 1) (pa_cons (pv 3) pa_nil))) pe_int (nomark _)))))), ?_⟩
    try dsimp only [cxOf, Cx.nox]
    walk_at "go"
    refine ⟨p, lm, g, rfl, hL.1, hL.2.1, fun H1 hE1 => ?_⟩
    have hm1 := ex_at hE1 hm
    have q1 := q H1 hE1
    walk_at "go"
    cases hs : seesL lm g with
    | false =>
      rw [hs] at q1
      walk_at "go"
      exact q1
    | true =>
      rw [hs] at q1
      walk_at "go"
      refine ⟨m, dx, p, s0, t, sp, us, mo, c, rfl, hm1, ht1, ht2, ?_⟩
      walk_at "go"
      exact q1
theorem ok_BucketMeter_earliest (T : Txt P w K mg a) : FnOk P w K mg base CX0 4 a.f_BucketMeter_earliest a.d_BucketMeter_earliest ["self", "moment", "group", "cost"] (sp_BucketMeter_earliest K a) := by
  refine T.F_BucketMeter_earliest.ok sc_BucketMeter_earliest (fun vs H Q E h => ?len) (fun cdv A outer s H vs Q E hr h => ?body)
  case len => obtain ⟨m, dx, p, lm, s, t, sp, us, mo, g, c, rfl, _⟩ := h; rfl
  case body =>
    obtain ⟨m, dx, p, lm, s0, t, sp, us, mo, g, c, rfl, hm, hL, ht1, ht2, q⟩ := h
    have hcl := T.cl_BucketMeter
    have n1 := T.nf_BucketMeter_limit
    have n2 := T.nf_BucketMeter__size
    have n3 := T.nf_BucketMeter__every
    have n4 := T.nf_BucketMeter__missing
    have n5 := T.nf_BucketMeter__moment
    refine ⟨_, (pss_cons (ps_if (pt_val (pe_meth (pv 0) T.cl_BucketMeter T.me_BucketMeter_room (ok_BucketMeter_room T) (hr.mono (by decide)) T.b_BucketMeter_room .nil pass0 (pa_cons (pv 1) (pa_cons (pv 2) (pa_cons (pv 3) pa_nil)))))
   (pss_one (ps_ret (pv 1)))
   pss_nil)
  (pss_cons (ps_if (pt_cmpR op_gt (pv 3) (pe_fldK (K := K) rfl (pv 0) rfl) (nomark _))
   (pss_one (ps_ret pe_non))
   pss_nil)
  (pss_one (ps_ret (pe_op op_add (pv 1) (pe_meth (pv 0) T.cl_BucketMeter T.me_BucketMeter_too_much (ok_BucketMeter_too_much T) (hr.mono (by decide)) T.b_BucketMeter_too_much .nil pass0 (pa_cons (pv 1) (pa_cons (pv 3) pa_nil)))))))), ?_⟩
    try dsimp only [cxOf, Cx.nox]
    walk_at "go"
    refine ⟨m, dx, p, lm, s0, t, sp, us, mo, g, c, rfl, hm, hL, ht1, ht2, fun H1 hE1 => ?_⟩
    have hm1 := ex_at hE1 hm
    have q1 := q H1 hE1
    unfold earlB at q1
    walk_at "go"
    refine w_ite (fun hb => ?_) (fun hb => ?_)
    · walk_at "go"
      have e : (if seesL lm g then (if missB sp us mo + t * c - s0 * t ≤ 0 then some mo else if c > s0 then none else some (mo + (missB sp us mo + t * c - s0 * t))) else some mo) = some mo := by
        cases hs : seesL lm g with
        | false => rfl
        | true =>
          rw [hs] at hb
          rw [if_pos rfl, if_pos (by simpa using hb)]
      rw [e] at q1
      exact q1
    · have hs : seesL lm g = true := by
        cases hs : seesL lm g with
        | false => rw [hs] at hb; cases hb
        | true => rfl
      rw [hs] at hb
      have hf : ¬ missB sp us mo + t * c - s0 * t ≤ 0 := by simpa using hb
      rw [hs, if_pos rfl, if_neg hf] at q1
      walk_at "go"
      refine w_dec (fun hc => ?_) (fun hc => ?_)
      · walk_at "go"
        rw [if_pos hc] at q1
        exact q1
      · rw [if_neg hc] at q1
        walk_at "go"
        refine ⟨m, dx, p, s0, t, sp, us, mo, c, rfl, hm1, ht1, ht2, ?_⟩
        walk_at "go"
        exact q1
theorem ok_BucketMeter_let (T : Txt P w K mg a) : FnOk P w K mg base CX0 2 a.f_BucketMeter_let a.d_BucketMeter_let ["self", "moment", "group", "cost", "key"] (sp_BucketMeter_let K a) := by
  refine T.F_BucketMeter_let.ok sc_BucketMeter_let (fun vs H Q E h => ?len) (fun cdv A outer s H vs Q E hr h => ?body)
  case len => obtain ⟨m, dx, p, lm, s, t, sp, us, mo, g, c, k, rfl, _⟩ := h; rfl
  case body =>
    obtain ⟨m, dx, p, lm, s0, t, sp, us, mo, g, c, k, rfl, hm, hL, ht1, ht2, q⟩ := h
    have hcl := T.cl_BucketMeter
    have n1 := T.nf_BucketMeter_limit
    have n2 := T.nf_BucketMeter__size
    have n3 := T.nf_BucketMeter__every
    have n4 := T.nf_BucketMeter__missing
    have n5 := T.nf_BucketMeter__moment
    refine ⟨_, (pss_one (ps_if (pt_val (pe_call (ok_looks_at T) (hr.mono (by decide)) (by rfl) T.g_looks_at T.F_looks_at.kp T.b_looks_at .nil pass0 (pa_cons (pe_fldK (K := K) rfl (pv 0) rfl) (pa_cons (pv 2) pa_nil))))
   (pss_cons (ps_fldK (K := K) rfl (pv 0) (pe_op op_add (pe_meth (pv 0) T.cl_BucketMeter T.me_BucketMeter_missing_at (ok_BucketMeter_missing_at T) (hr.mono (by decide)) T.b_BucketMeter_missing_at .nil pass0 (pa_cons (pv 1) pa_nil)) (pe_op op_mul (pe_fldK (K := K) rfl (pv 0) rfl) (pv 3))) rfl)
  (pss_one (ps_fldK (K := K) rfl (pv 0) (pv 1) rfl)))
   pss_nil)), ?_⟩
    try dsimp only [cxOf, Cx.nox]
    walk_at "go"
    refine ⟨p, lm, g, rfl, hL.1, hL.2.1, fun H1 hE1 => ?_⟩
    have hm1 := ex_at hE1 hm
    walk_at "go"
    refine w_ite (fun h0 => ?_) (fun h0 => ?_)
    · walk_at "go"
      refine ⟨m, dx, p, s0, t, sp, us, mo, rfl, hm1, ?_⟩
      walk_at "go"
      refine g_stF1 hm1 hcl n4 (by show 5 < 1000; decide) ?_
      rw [flB_mi]
      walk_at "go"
      refine g_stF1 upd_same hcl n5 (by show 5 < 1000; decide) ?_
      rw [flB_mo]
      exact q _ (ExP.upd (ExP.upd (ExP.of hE1))) (by rw [upd_same, if_pos h0])
    · walk_at "go"
      exact q _ (ExP.of hE1) (by rw [hm1, if_neg (by rw [h0]; decide)])
theorem ok_GapMeter_init (T : Txt P w K mg a) : FnOk P w K mg base CX0 1 a.f_GapMeter_init a.d_GapMeter_init ["self", "limit"] (sp_GapMeter_init K a) := by
  refine T.F_GapMeter_init.ok sc_GapMeter_init (fun vs H Q E h => ?len) (fun cdv A outer s H vs Q E hr h => ?body)
  case len => obtain ⟨m, dx, p, lm, t, rfl, _⟩ := h; rfl
  case body =>
    obtain ⟨m, dx, p, lm, t, rfl, hm, hL, q⟩ := h
    obtain ⟨⟨pg, pn, h1, h2, h3⟩, hok, hnu⟩ := hL
    rw [hnu] at h3
    have h3 : SqT K H pn [.int t] := h3
    have hcl := T.cl_GapMeter
    have n1 := T.nf_GapMeter_limit
    have n2 := T.nf_GapMeter__ticks
    have n3 := T.nf_GapMeter__last
    refine ⟨_, (pss_cons (ps_fldK (K := K) rfl (pv 0) (pv 1) rfl)
  (pss_cons (ps_fldK (K := K) rfl (pv 0) (pe_ix (ix_tupK (K := K) rfl) (pe_ix (ix_tupK (K := K) rfl) (pv 1) pe_int (fun _ _ => rfl)) pe_int (fun _ _ => rfl)) rfl)
  (pss_one (ps_fldK (K := K) rfl (pv 0) pe_non rfl)))), ?_⟩
    try dsimp only [cxOf, Cx.nox]
    walk_at "go"
    refine g_stF1 hm hcl n1 (by decide) ?_
    have e1 : ExP m H (upd H m (.ins a.c_GapMeter dx (putF "limit" (.ref p) []))) := ExP.upd (ExP.of (Evl.Ex.refl _))
    have k1 := exP_sqT hm e1 h1
    have k3 := exP_sqT hm e1 h3
    walk_at "go"
    refine g_stF1 upd_same hcl n2 (by show 1 < 1000; decide) ?_
    walk_at "go"
    refine g_stF1 upd_same hcl n3 (by show 2 < 1000; decide) ?_
    rw [flG_new]
    exact q _ (ExP.upd (ExP.upd e1)) upd_same
theorem ok_GapMeter_earliest (T : Txt P w K mg a) : FnOk P w K mg base CX0 2 a.f_GapMeter_earliest a.d_GapMeter_earliest ["self", "moment", "group", "cost"] (sp_GapMeter_earliest K a) := by
  refine T.F_GapMeter_earliest.ok sc_GapMeter_earliest (fun vs H Q E h => ?len) (fun cdv A outer s H vs Q E hr h => ?body)
  case len => obtain ⟨m, dx, p, lm, t, last, mo, g, c, rfl, _⟩ := h; rfl
  case body =>
    obtain ⟨m, dx, p, lm, t, last, mo, g, c, rfl, hm, hL, q⟩ := h
    have hcl := T.cl_GapMeter
    have n1 := T.nf_GapMeter_limit
    have n2 := T.nf_GapMeter__ticks
    have n3 := T.nf_GapMeter__last
    refine ⟨_, (pss_cons (ps_if (PW.pt (pw_or (pt_cmpR op_isNN (pe_fldK (K := K) rfl (pv 0) rfl) pe_non (nomark _)) (pw_or1 (pt_not (pt_val (pe_call (ok_looks_at T) (hr.mono (by decide)) (by rfl) T.g_looks_at T.F_looks_at.kp T.b_looks_at .nil pass0 (pa_cons (pe_fldK (K := K) rfl (pv 0) rfl) (pa_cons (pv 2) pa_nil))))))))
   (pss_one (ps_ret (pv 1)))
   pss_nil)
  (pss_one (ps_ret (pe_callB (call_max2N rfl) (by rfl) T.z_max (by decide +kernel) (pa_cons (pv 1) (pa_cons (pe_op op_add (pe_fldK (K := K) rfl (pv 0) rfl) (pe_fldK (K := K) rfl (pv 0) rfl)) pa_nil)))))), ?_⟩
    try dsimp only [cxOf, Cx.nox]
    walk_at "go"
    cases last with
    | none =>
      refine w_dec (fun _ => ?_) (fun h => absurd rfl h)
      walk_at "go"
      have := q H (Evl.Ex.refl _)
      rw [show earlG t none mo = mo from rfl, ite_self] at this
      exact this
    | some x =>
      refine w_dec (fun h => absurd h (by intro z; cases z)) (fun _ => ?_)
      walk_at "go"
      refine ⟨p, lm, g, rfl, hL.1, hL.2.1, fun H1 hE1 => ?_⟩
      have hm1 := ex_at hE1 hm
      walk_at "go"
      refine w_ite (fun h0 => ?_) (fun h0 => ?_)
      · walk_at "go"
        have := q H1 hE1
        rw [if_neg (by simpa using h0)] at this
        exact this
      · walk_at "go"
        dsimp only [oN]
        walk_at "go"
        have := q H1 hE1
        rw [if_pos (by simpa using h0)] at this
        exact this
theorem ok_GapMeter_room (T : Txt P w K mg a) : FnOk P w K mg base CX0 3 a.f_GapMeter_room a.d_GapMeter_room ["self", "moment", "group", "cost"] (sp_GapMeter_room K a) := by
  refine T.F_GapMeter_room.ok sc_GapMeter_room (fun vs H Q E h => ?len) (fun cdv A outer s H vs Q E hr h => ?body)
  case len => obtain ⟨m, dx, p, lm, t, last, mo, g, c, rfl, _⟩ := h; rfl
  case body =>
    obtain ⟨m, dx, p, lm, t, last, mo, g, c, rfl, hm, hL, q⟩ := h
    have hcl := T.cl_GapMeter
    refine ⟨_, (pss_one (ps_ret (pe_cmpR op_eq (pe_meth (pv 0) T.cl_GapMeter T.me_GapMeter_earliest (ok_GapMeter_earliest T) (hr.mono (by decide)) T.b_GapMeter_earliest .nil pass0 (pa_cons (pv 1) (pa_cons (pv 2) (pa_cons (pv 3) pa_nil)))) (pv 1) (nomark _)))), ?_⟩
    try dsimp only [cxOf, Cx.nox]
    walk_at "go"
    refine ⟨m, dx, p, lm, t, last, mo, g, c, rfl, hm, hL, fun H1 hE1 => ?_⟩
    walk_at "go"
    exact q H1 hE1
theorem ok_GapMeter_let (T : Txt P w K mg a) : FnOk P w K mg base CX0 2 a.f_GapMeter_let a.d_GapMeter_let ["self", "moment", "group", "cost", "key"] (sp_GapMeter_let K a) := by
  refine T.F_GapMeter_let.ok sc_GapMeter_let (fun vs H Q E h => ?len) (fun cdv A outer s H vs Q E hr h => ?body)
  case len => obtain ⟨m, dx, p, lm, t, last, mo, g, c, k, rfl, _⟩ := h; rfl
  case body =>
    obtain ⟨m, dx, p, lm, t, last, mo, g, c, k, rfl, hm, hL, q⟩ := h
    have hcl := T.cl_GapMeter
    have n1 := T.nf_GapMeter_limit
    have n3 := T.nf_GapMeter__last
    refine ⟨_, (pss_one (ps_if (pt_val (pe_call (ok_looks_at T) (hr.mono (by decide)) (by rfl) T.g_looks_at T.F_looks_at.kp T.b_looks_at .nil pass0 (pa_cons (pe_fldK (K := K) rfl (pv 0) rfl) (pa_cons (pv 2) pa_nil))))
   (pss_one (ps_fldK (K := K) rfl (pv 0) (pv 1) rfl))
   pss_nil)), ?_⟩
    try dsimp only [cxOf, Cx.nox]
    walk_at "go"
    refine ⟨p, lm, g, rfl, hL.1, hL.2.1, fun H1 hE1 => ?_⟩
    have hm1 := ex_at hE1 hm
    walk_at "go"
    refine w_ite (fun h0 => ?_) (fun h0 => ?_)
    · walk_at "go"
      refine g_stF1 hm1 hcl n3 (by show 3 < 1000; decide) ?_
      rw [flG_set]
      exact q _ (ExP.upd (ExP.of hE1)) (by rw [upd_same, if_pos h0])
    · walk_at "go"
      exact q _ (ExP.of hE1) (by rw [hm1, if_neg (by rw [h0]; decide)])
theorem ok_HeldMeter_init (T : Txt P w K mg a) : FnOk P w K mg base CX0 1 a.f_HeldMeter_init a.d_HeldMeter_init ["self", "limit"] (sp_HeldMeter_init K a) := by
  refine T.F_HeldMeter_init.ok sc_HeldMeter_init (fun vs H Q E h => ?len) (fun cdv A outer s H vs Q E hr h => ?body)
  case len => obtain ⟨m, dx, p, lm, s, rfl, _⟩ := h; rfl
  case body =>
    obtain ⟨m, dx, p, lm, s0, rfl, hm, hL, q⟩ := h
    obtain ⟨⟨pg, pn, h1, h2, h3⟩, hok, hnu⟩ := hL
    rw [hnu] at h3
    have h3 : SqT K H pn [.int s0] := h3
    have hcl := T.cl_HeldMeter
    have n1 := T.nf_HeldMeter_limit
    have n2 := T.nf_HeldMeter__most
    have n3 := T.nf_HeldMeter__costs
    have n4 := T.nf_HeldMeter__used
    refine ⟨_, (pss_cons (ps_fldK (K := K) rfl (pv 0) (pv 1) rfl)
  (pss_cons (ps_fldK (K := K) rfl (pv 0) (pe_ix (ix_tupK (K := K) rfl) (pe_ix (ix_tupK (K := K) rfl) (pv 1) pe_int (fun _ _ => rfl)) pe_int (fun _ _ => rfl)) rfl)
  (pss_cons (ps_fldK (K := K) rfl (pv 0) pe_dnewK rfl)
  (pss_one (ps_fldK (K := K) rfl (pv 0) pe_int rfl))))), ?_⟩
    try dsimp only [cxOf, Cx.nox]
    walk_at "go"
    refine g_stF1 hm hcl n1 (by decide) ?_
    have e1 : ExP m H (upd H m (.ins a.c_HeldMeter dx (putF "limit" (.ref p) []))) := ExP.upd (ExP.of (Evl.Ex.refl _))
    have k1 := exP_sqT hm e1 h1
    have k3 := exP_sqT hm e1 h3
    walk_at "go"
    refine g_stF1 upd_same hcl n2 (by show 1 < 1000; decide) ?_
    walk_at "go"
    rename_i d hd
    have hdm : d ≠ m := fun z => by rw [z, upd_same] at hd; cases hd
    refine g_stF1 (by rw [upd_ne (Ne.symm hdm)]; exact upd_same) hcl n3 (by show 2 < 1000; decide) ?_
    walk_at "go"
    refine g_stF1 upd_same hcl n4 (by show 3 < 1000; decide) ?_
    rw [flD_new]
    have hp0 : H d = none := by
      rw [upd_ne hdm, upd_ne hdm] at hd
      exact hd
    exact q d _ hp0 (ExP.upd (ExP.upd (ExP.trans (ExP.upd e1) (ExP.of (Evl.Ex.new hd))))) ⟨upd_same, by rw [upd_ne hdm, upd_ne hdm, upd_same]; rfl⟩
theorem ok_HeldMeter_room (T : Txt P w K mg a) : FnOk P w K mg base CX0 2 a.f_HeldMeter_room a.d_HeldMeter_room ["self", "moment", "group", "cost"] (sp_HeldMeter_room K a) := by
  refine T.F_HeldMeter_room.ok sc_HeldMeter_room (fun vs H Q E h => ?len) (fun cdv A outer s H vs Q E hr h => ?body)
  case len => obtain ⟨m, dx, p, d, lm, s, es, mo, g, c, rfl, _⟩ := h; rfl
  case body =>
    obtain ⟨m, dx, p, d, lm, s0, es, mo, g, c, rfl, M, hL, q⟩ := h
    have hm := M.hm
    have hcl := T.cl_HeldMeter
    have n1 := T.nf_HeldMeter_limit
    have n2 := T.nf_HeldMeter__most
    have n3 := T.nf_HeldMeter__costs
    have n4 := T.nf_HeldMeter__used
    refine ⟨_, (pss_one (ps_ret (pe_or (pe_not (pe_call (ok_looks_at T) (hr.mono (by decide)) (by rfl) T.g_looks_at T.F_looks_at.kp T.b_looks_at .nil pass0 (pa_cons (pe_fldK (K := K) rfl (pv 0) rfl) (pa_cons (pv 2) pa_nil)))) (pe_one (pe_cmpR op_le (pe_op op_add (pe_fldK (K := K) rfl (pv 0) rfl) (pv 3)) (pe_fldK (K := K) rfl (pv 0) rfl) (nomark _)))))), ?_⟩
    try dsimp only [cxOf, Cx.nox]
    walk_at "go"
    refine ⟨p, lm, g, rfl, hL.1, hL.2.1, fun H1 hE1 => ?_⟩
    have hm1 := ex_at hE1 hm
    have q1 := q H1 hE1
    skip
    walk_at "go"
    cases hs : seesL lm g with
    | false =>
      rw [hs] at q1
      walk_at "go"
      exact q1
    | true =>
      rw [hs] at q1
      walk_at "go"
      exact q1
theorem ok_HeldMeter_earliest (T : Txt P w K mg a) : FnOk P w K mg base CX0 3 a.f_HeldMeter_earliest a.d_HeldMeter_earliest ["self", "moment", "group", "cost"] (sp_HeldMeter_earliest K a) := by
  refine T.F_HeldMeter_earliest.ok sc_HeldMeter_earliest (fun vs H Q E h => ?len) (fun cdv A outer s H vs Q E hr h => ?body)
  case len => obtain ⟨m, dx, p, d, lm, s, es, mo, g, c, rfl, _⟩ := h; rfl
  case body =>
    obtain ⟨m, dx, p, d, lm, s0, es, mo, g, c, rfl, M, hL, q⟩ := h
    have hm := M.hm
    have hcl := T.cl_HeldMeter
    have n1 := T.nf_HeldMeter_limit
    have n2 := T.nf_HeldMeter__most
    have n3 := T.nf_HeldMeter__costs
    have n4 := T.nf_HeldMeter__used
    refine ⟨_, (pss_one (ps_ret (pe_ifExp (pt_val (pe_meth (pv 0) T.cl_HeldMeter T.me_HeldMeter_room (ok_HeldMeter_room T) (hr.mono (by decide)) T.b_HeldMeter_room .nil pass0 (pa_cons (pv 1) (pa_cons (pv 2) (pa_cons (pv 3) pa_nil))))) (pv 1) pe_non))), ?_⟩
    try dsimp only [cxOf, Cx.nox]
    walk_at "go"
    refine ⟨m, dx, p, d, lm, s0, es, mo, g, c, rfl, M, hL, fun H1 hE1 => ?_⟩
    have q1 := q H1 hE1
    walk_at "go"
    refine w_ite (fun h0 => ?_) (fun h0 => ?_)
    · walk_at "go"
      rw [if_pos h0] at q1
      exact q1
    · walk_at "go"
      rw [if_neg (by rw [h0]; decide)] at q1
      exact q1
theorem ok_HeldMeter_let (T : Txt P w K mg a) : FnOk P w K mg base CX0 2 a.f_HeldMeter_let a.d_HeldMeter_let ["self", "moment", "group", "cost", "key"] (sp_HeldMeter_let K a) := by
  refine T.F_HeldMeter_let.ok sc_HeldMeter_let (fun vs H Q E h => ?len) (fun cdv A outer s H vs Q E hr h => ?body)
  case len => obtain ⟨m, dx, p, d, lm, s, es, mo, g, c, k, rfl, _⟩ := h; rfl
  case body =>
    obtain ⟨m, dx, p, d, lm, s0, es, mo, g, c, k, rfl, M, hL, hk, hl, q⟩ := h
    have hm := M.hm
    have hcl := T.cl_HeldMeter
    have n1 := T.nf_HeldMeter_limit
    have n2 := T.nf_HeldMeter__most
    have n3 := T.nf_HeldMeter__costs
    have n4 := T.nf_HeldMeter__used
    refine ⟨_, (pss_one (ps_if (pt_val (pe_call (ok_looks_at T) (hr.mono (by decide)) (by rfl) T.g_looks_at T.F_looks_at.kp T.b_looks_at .nil pass0 (pa_cons (pe_fldK (K := K) rfl (pv 0) rfl) (pa_cons (pv 2) pa_nil))))
   (pss_cons (ps_dput (hu_of hr) (pe_fldK (K := K) rfl (pv 0) rfl) (pv 4) (pv 3) rfl)
  (pss_one (ps_fldK (K := K) rfl (pv 0) (pe_op op_add (pe_fldK (K := K) rfl (pv 0) rfl) (pv 3)) rfl)))
   pss_nil)), ?_⟩
    try dsimp only [cxOf, Cx.nox]
    walk_at "go"
    refine ⟨p, lm, g, rfl, hL.1, hL.2.1, fun H1 hE1 => ?_⟩
    have M1 := M.mono hE1
    have hm1 := M1.hm
    have hd1 := M1.hd
    have hne := M1.ne
    have hll : (kvsH es).length < sizeLine := by
      unfold kvsH
      rw [List.length_map, sizeLine_eq]
      omega
    walk_at "go"
    refine w_ite (fun h0 => ?_) (fun h0 => ?_)
    · walk_at "go"
      rw [putH hk]
      have hm2 : (upd H1 d (.dK (kvsH (es ++ [(k, c)])))) m = some (.ins a.c_HeldMeter dx (flD p s0 d (sumH es))) := by rw [upd_ne hne]; exact hm1
      walk_at "go"
      refine g_stF1 hm2 hcl n4 (by show 4 < 1000; decide) ?_
      rw [flD_set]
      refine q _ (ExD.upM (ExD.upD (ExD.of hE1))) ?_
      rw [if_pos h0]
      exact ⟨by rw [upd_same, sumH_snoc], by rw [upd_ne (Ne.symm hne), upd_same]⟩
    · walk_at "go"
      refine q _ (ExD.of hE1) ?_
      rw [if_neg (by rw [h0]; decide)]
      exact M1
theorem ok_PoolMeter_init (T : Txt P w K mg a) : FnOk P w K mg base CX0 1 a.f_PoolMeter_init a.d_PoolMeter_init ["self", "limit"] (sp_PoolMeter_init K a) := by
  refine T.F_PoolMeter_init.ok sc_PoolMeter_init (fun vs H Q E h => ?len) (fun cdv A outer s H vs Q E hr h => ?body)
  case len => obtain ⟨m, dx, p, lm, most, sh, rfl, _⟩ := h; rfl
  case body =>
    obtain ⟨m, dx, p, lm, most, sh, rfl, hm, hL, hok, q⟩ := h
    obtain ⟨pg, pn, pt, ads, h1, h2, h3, h4, h5, rfl, h8⟩ := hL.P
    rw [List.length_map] at h8
    have hnd := hok.nd
    rw [List.map_map] at hnd
    have hcl := T.cl_PoolMeter
    have n1 := T.nf_PoolMeter_limit
    have n2 := T.nf_PoolMeter__costs
    have n3 := T.nf_PoolMeter__uses
    refine ⟨_, (pss_cons (ps_fldK (K := K) rfl (pv 0) (pv 1) rfl)
  (pss_cons (ps_fldK (K := K) rfl (pv 0) pe_dnewK rfl)
  (pss_one (ps_fldK (K := K) rfl (pv 0) (pe_dc (own := [("share", 2)]) (g := gName 2) (tt := tYes) rfl sc_PoolMeter_init.nd (pi_tupK (K := K) rfl (pe_ix (ix_tupK (K := K) rfl) (pe_ix (ix_tupK (K := K) rfl) (pv 1) pe_int (fun _ _ => rfl)) pe_int (fun _ _ => rfl))) (blkOk_by (own := [("share", 2)]) (N := ["self", "limit", "share"]) (sc := defScope s_PoolMeter_init) (by decide +kernel)) (fun _ _ _ _ _ => (pg_name (i := 2) sc_PoolMeter_init.nd rfl (Or.inl rfl))) (fun _ _ _ _ _ => pts_nil) (fun _ _ _ _ _ => (pe_ix (ix_tupK (K := K) rfl) (pv 2) pe_int (fun _ _ => rfl))) (fun _ _ _ _ _ => pe_int)) rfl)))), ?_⟩
    try dsimp only [cxOf, Cx.nox]
    walk_at "go"
    refine g_stF1 hm hcl n1 (by decide) ?_
    have e1 : ExP m H (upd H m (.ins a.c_PoolMeter dx (putF "limit" (.ref p) []))) := ExP.upd (ExP.of (Evl.Ex.refl _))
    have k1 := exP_sqT hm e1 h1
    have k3 := exP_sqT hm e1 h3
    have k4 := exP_sqT hm e1 h4
    have k5 := fun x hx => exP_sqT hm e1 (h5 x hx)
    have hm1 : (upd H m (.ins a.c_PoolMeter dx (putF "limit" (.ref p) []))) m = some (.ins a.c_PoolMeter dx (putF "limit" (.ref p) [])) := upd_same
    generalize upd H m (.ins a.c_PoolMeter dx (putF "limit" (.ref p) [])) = H1 at *
    walk_at "go"
    rename_i dC hdC
    have hdm : dC ≠ m := fun z => by rw [z, hm1] at hdC; cases hdC
    refine g_stF1 (ex_at (Evl.Ex.new hdC) hm1) hcl n2 (by show 1 < 1000; decide) ?_
    have hm2 : (upd (upd H1 dC (.dK [])) m (.ins a.c_PoolMeter dx (putF "_costs" (.ref dC) (putF "limit" (.ref p) [])))) m = some (.ins a.c_PoolMeter dx (putF "_costs" (.ref dC) (putF "limit" (.ref p) []))) := upd_same
    have hc2 : (upd (upd H1 dC (.dK [])) m (.ins a.c_PoolMeter dx (putF "_costs" (.ref dC) (putF "limit" (.ref p) [])))) dC = some (.dK []) := by rw [upd_ne hdm, upd_same]
    have e2 : ExP m H1 (upd (upd H1 dC (.dK [])) m (.ins a.c_PoolMeter dx (putF "_costs" (.ref dC) (putF "limit" (.ref p) [])))) := ExP.upd (ExP.of (Evl.Ex.new hdC))
    have j1 := exP_sqT hm1 e2 k1
    have j3 := exP_sqT hm1 e2 k3
    have j4 := exP_sqT hm1 e2 k4
    have j5 := fun x hx => exP_sqT hm1 e2 (k5 x hx)
    generalize upd (upd H1 dC (.dK [])) m (.ins a.c_PoolMeter dx (putF "_costs" (.ref dC) (putF "limit" (.ref p) []))) = H2 at *
    walk_at "go"
    refine dc_new (fun x : Addr × S3 => V.ref x.1) (fun x => x.2.1) (fun _ => V.int 0) j4 hnd (by omega) (fun x hx H3 e3 R hR => ?_) (fun dU H3 hdU hE3 hU3 => ?_)
    · have hSx : SqT K H3 x.1 [.str x.2.1, .int x.2.2.1, .int x.2.2.2] := ex_sqT e3 (j5 x hx)
      walk_at "go"
      exact hR _ (Evl.Ex.refl _)
    have hum : dU ≠ m := fun z => by rw [z, hm2] at hdU; cases hdU
    have huc : dC ≠ dU := fun z => by rw [← z, hc2] at hdU; cases hdU
    walk_at "go"
    refine g_stF1 (ex_at hE3 hm2) hcl n3 (by show 2 < 1000; decide) ?_
    rw [flP_new]
    have c0 : H dC = none := by
      cases hq : H dC with
      | none => rfl
      | some o => rw [e1 dC o hdm hq] at hdC; cases hdC
    have u0 : H dU = none := by
      cases hq : H dU with
      | none => rfl
      | some o => rw [e2 dU o hum (e1 dU o hum hq)] at hdU; cases hdU
    refine q dC dU _ c0 u0 (ExP.upd (ExP.trans e1 (ExP.trans e2 (ExP.of hE3)))) ⟨upd_same, ⟨[], rfl, by rw [upd_ne hdm]; exact ex_at hE3 hc2, (fun x hx => nomatch hx)⟩, ?_, huc, (fun e he => nomatch he)⟩
    rw [upd_ne hum, hU3]
    unfold usesK kvsG
    rw [List.map_map]
    rfl
theorem ok_PoolMeter_borrowed (T : Txt P w K mg a) : FnOk P w K mg base CX0 1 a.f_PoolMeter_borrowed a.d_PoolMeter_borrowed ["self", "group", "more"] (sp_PoolMeter_borrowed K a) := by
  refine T.F_PoolMeter_borrowed.ok sc_PoolMeter_borrowed (fun vs H Q E h => ?len) (fun cdv A outer s H vs Q E hr h => ?body)
  case len => obtain ⟨m, dx, p, dC, dU, lm, most, sh, es, g, c, rfl, _⟩ := h; rfl
  case body =>
    obtain ⟨m, dx, p, dC, dU, lm, most, sh, es, g, c, rfl, M, hL, q⟩ := h
    obtain ⟨pg, pn, pt, ads, h1, h2, h3, h4, h5, rfl, h8⟩ := hL.P
    have hm := M.hm
    have hcl := T.cl_PoolMeter
    have n1 := T.nf_PoolMeter_limit
    have n2 := T.nf_PoolMeter__costs
    have n3 := T.nf_PoolMeter__uses
    refine ⟨_, (pss_cons (ps_set (i := 3) sc_PoolMeter_borrowed.nd rfl (Or.inl rfl) pe_int)
  (pss_cons (ps_for PassesOwn.never rfl (pi_tupK (K := K) rfl (pe_ix (ix_tupK (K := K) rfl) (pe_ix (ix_tupK (K := K) rfl) (pe_fldK (K := K) rfl (pv 0) rfl) pe_int (fun _ _ => rfl)) pe_int (fun _ _ => rfl))) (pg_tupK (K := K) rfl rfl (pgs_cons (pg_name (i := 4) sc_PoolMeter_borrowed.nd rfl (Or.inl rfl)) (pgs_cons (pg_name (i := 5) sc_PoolMeter_borrowed.nd rfl (Or.inl rfl)) (pgs_cons (pg_name (i := 6) sc_PoolMeter_borrowed.nd rfl (Or.inl rfl)) pgs_nil))))
   (pss_cons (ps_set (i := 7) sc_PoolMeter_borrowed.nd rfl (Or.inl rfl) (pe_dget (hu_of hr) (pe_fldK (K := K) rfl (pv 0) rfl) (pv 4) (fun _ _ => rfl)))
  (pss_cons (ps_if (pt_cmpR op_eq (pv 4) (pv 1) (nomark _))
   (pss_one (ps_set (i := 7) sc_PoolMeter_borrowed.nd rfl (Or.inl rfl) (pe_op op_add (pv 7) (pv 2))))
   pss_nil)
  (pss_one (ps_set (i := 3) sc_PoolMeter_borrowed.nd rfl (Or.inl rfl) (pe_op op_add (pv 3) (pe_callB (call_max2N rfl) (by rfl) T.z_max (by decide +kernel) (pa_cons pe_int (pa_cons (pe_op op_sub (pv 7) (pv 5)) pa_nil)))))))))
  (pss_one (ps_ret (pv 3))))), ?_⟩
    try dsimp only [cxOf, Cx.nox]
    walk_at "go"
    refine l_it (walk_tup (xs := ads.map fun x => V.ref x.1)) (fun i σ' H' => ∃ v4 v5 v6 v7 : Option V, σ' = [some (.ref m), some (.str g), some (.int c), some (.int (borP ((ads.map (·.2)).take i) (fun n => if n = g then useP es n + c else useP es n))), v4, v5, v6, v7] ∧ Ex H H') ⟨_, _, _, _, rfl, Evl.Ex.refl _⟩ (fun i σ' H' hi hP => ?_) (fun i x σ' H1 H2 hi hP hY => ?_) (fun σ' H1 hP => ?_)
    · obtain ⟨_, _, _, _, _, hE⟩ := hP
      exact ex_sqT hE h4
    · obtain ⟨v4, v5, v6, v7, rfl, hE⟩ := hP
      obtain ⟨rfl, hxi⟩ := hY
      obtain ⟨px, r, hxr, rfl⟩ := row_getX hxi
      have hSx : SqT K _ px [.str r.1, .int r.2.1, .int r.2.2] := ex_sqT hE (h5 (px, r) (List.mem_of_getElem? hxr))
      have hm2 := ex_at hE hm
      have hu2 := ex_at hE M.hu
      have hr : r.1 ∈ (ads.map (·.2)).map (·.1) := List.mem_map_of_mem (f := fun s : S3 => s.1) (List.mem_map_of_mem (f := fun x : Addr × S3 => x.2) (List.mem_of_getElem? hxr))
      generalize hbt : borP ((ads.map (·.2)).take i) (fun n => if n = g then useP es n + c else useP es n) = bt at *
      walk_at "go"
      refine g_dgetS hu2 (uses_val hr) ?_
      walk_at "go"
      refine w_ifH (fun x _ => x = .int (if r.1 = g then useP es r.1 + c else useP es r.1)) (fun h0 R hR => ?_) (fun h0 => ⟨_, rfl, by rw [if_neg h0]⟩) (fun x7 H7 hx7 hE7 => ?_)
      · walk_at "go"
        exact hR _ _ (by rw [if_pos h0]) (Evl.Ex.refl _)
      subst hx7
      walk_at "go"
      refine ⟨some (.str r.1), some (.int r.2.1), some (.int r.2.2), some (.int (if r.1 = g then useP es r.1 + c else useP es r.1)), ?_, hE.trans hE7⟩
      rw [take_snd hxr, borP_snoc, hbt]
      rfl
    · obtain ⟨v4, v5, v6, v7, rfl, hE⟩ := hP
      rw [List.length_map, List.take_of_length_le (by rw [List.length_map]; exact Nat.le_refl _)]
      walk_at "go"
      exact q _ hE
theorem ok_PoolMeter_room (T : Txt P w K mg a) : FnOk P w K mg base CX0 2 a.f_PoolMeter_room a.d_PoolMeter_room ["self", "moment", "group", "cost"] (sp_PoolMeter_room K a) := by
  refine T.F_PoolMeter_room.ok sc_PoolMeter_room (fun vs H Q E h => ?len) (fun cdv A outer s H vs Q E hr h => ?body)
  case len => obtain ⟨m, dx, p, dC, dU, lm, most, sh, es, mo, g, c, rfl, _⟩ := h; rfl
  case body =>
    obtain ⟨m, dx, p, dC, dU, lm, most, sh, es, mo, g, c, rfl, M, hL, q⟩ := h
    have hm := M.hm
    have hcl := T.cl_PoolMeter
    have n1 := T.nf_PoolMeter_limit
    have n2 := T.nf_PoolMeter__costs
    have n3 := T.nf_PoolMeter__uses
    refine ⟨_, (pss_cons (ps_if (pt_not (pt_val (pe_call (ok_looks_at T) (hr.mono (by decide)) (by rfl) T.g_looks_at T.F_looks_at.kp T.b_looks_at .nil pass0 (pa_cons (pe_fldK (K := K) rfl (pv 0) rfl) (pa_cons (pv 2) pa_nil)))))
   (pss_one (ps_ret pe_bl))
   pss_nil)
  (pss_cons (ps_if (pt_cmpR op_gt (pe_op op_add (pe_dget (hu_of hr) (pe_fldK (K := K) rfl (pv 0) rfl) (pv 2) (fun _ _ => rfl)) (pv 3)) (pe_ix (ix_tupK (K := K) rfl) (pe_call (ok_share_for T) (hr.mono (by decide)) (by rfl) T.g_share_for T.F_share_for.kp T.b_share_for .nil pass0 (pa_cons (pe_fldK (K := K) rfl (pv 0) rfl) (pa_cons (pv 2) pa_nil))) pe_int (fun _ _ => rfl)) (nomark _))
   (pss_one (ps_ret pe_bl))
   pss_nil)
  (pss_one (ps_ret (pe_cmpR op_le (pe_meth (pv 0) T.cl_PoolMeter T.me_PoolMeter_borrowed (ok_PoolMeter_borrowed T) (hr.mono (by decide)) T.b_PoolMeter_borrowed .nil pass0 (pa_cons (pv 2) (pa_cons (pv 3) pa_nil))) (pe_call (ok_common_of T) (hr.mono (by decide)) (by rfl) T.g_common_of T.F_common_of.kp T.b_common_of .nil pass0 (pa_cons (pe_fldK (K := K) rfl (pv 0) rfl) pa_nil)) (nomark _)))))), ?_⟩
    try dsimp only [cxOf, Cx.nox]
    walk_at "go"
    refine ⟨p, lm, g, rfl, hL.1, hL.2.1, fun H1 hE1 => ?_⟩
    rw [hL.sees]
    have M1 := M.mono hE1
    have hm1 := M1.hm
    have hu1 := M1.hu
    have hL1 := hL.mono hE1
    walk_at "go"
    refine w_ite (fun h0 => ?_) (fun h0 => ?_)
    · walk_at "go"
      have q1 := q H1 hE1
      rw [roomP_skip (by simpa using h0)] at q1
      exact q1
    have hs : seesP sh g = true := by simpa using h0
    have q1 := fun H' e => q H' (hE1.trans e)
    unfold roomP at q1
    rw [hs] at q1
    walk_at "go"
    refine g_dgetS hu1 (uses_val (of_decide_eq_true hs)) ?_
    walk_at "go"
    refine ⟨p, lm.nm, most, sh, g, rfl, hL1.P, fun p2 H2 hE2 hS2 => ?_⟩
    have M2 := M1.mono hE2
    have hm2 := M2.hm
    have hL2 := hL1.mono hE2
    walk_at "go"
    refine w_dec (fun h1 => ?_) (fun h1 => ?_)
    · walk_at "go"
      have q2 := q1 H2 hE2
      rw [decide_eq_true h1] at q2
      exact q2
    · rw [decide_eq_false h1] at q1
      walk_at "go"
      refine ⟨m, dx, p, dC, dU, lm, most, sh, es, g, c, rfl, M2, hL2, fun H3 hE3 => ?_⟩
      have hL3 := hL2.mono hE3
      have hm3 := ex_at hE3 hm2
      walk_at "go"
      refine ⟨p, lm.nm, most, sh, rfl, hL3.P, fun H4 hE4 => ?_⟩
      walk_at "go"
      exact q1 H4 (hE2.trans (hE3.trans hE4))
theorem ok_PoolMeter_earliest (T : Txt P w K mg a) : FnOk P w K mg base CX0 3 a.f_PoolMeter_earliest a.d_PoolMeter_earliest ["self", "moment", "group", "cost"] (sp_PoolMeter_earliest K a) := by
  refine T.F_PoolMeter_earliest.ok sc_PoolMeter_earliest (fun vs H Q E h => ?len) (fun cdv A outer s H vs Q E hr h => ?body)
  case len => obtain ⟨m, dx, p, dC, dU, lm, most, sh, es, mo, g, c, rfl, _⟩ := h; rfl
  case body =>
    obtain ⟨m, dx, p, dC, dU, lm, most, sh, es, mo, g, c, rfl, M, hL, q⟩ := h
    have hm := M.hm
    have hcl := T.cl_PoolMeter
    have n1 := T.nf_PoolMeter_limit
    have n2 := T.nf_PoolMeter__costs
    have n3 := T.nf_PoolMeter__uses
    refine ⟨_, (pss_one (ps_ret (pe_ifExp (pt_val (pe_meth (pv 0) T.cl_PoolMeter T.me_PoolMeter_room (ok_PoolMeter_room T) (hr.mono (by decide)) T.b_PoolMeter_room .nil pass0 (pa_cons (pv 1) (pa_cons (pv 2) (pa_cons (pv 3) pa_nil))))) (pv 1) pe_non))), ?_⟩
    try dsimp only [cxOf, Cx.nox]
    walk_at "go"
    refine ⟨m, dx, p, dC, dU, lm, most, sh, es, mo, g, c, rfl, M, hL, fun H1 hE1 => ?_⟩
    have q1 := q H1 hE1
    walk_at "go"
    refine w_ite (fun h0 => ?_) (fun h0 => ?_)
    · walk_at "go"
      rw [if_pos h0] at q1
      exact q1
    · walk_at "go"
      rw [if_neg (by rw [h0]; decide)] at q1
      exact q1
theorem ok_PoolMeter_let (T : Txt P w K mg a) : FnOk P w K mg base CX0 2 a.f_PoolMeter_let a.d_PoolMeter_let ["self", "moment", "group", "cost", "key"] (sp_PoolMeter_let K a) := by
  refine T.F_PoolMeter_let.ok sc_PoolMeter_let (fun vs H Q E h => ?len) (fun cdv A outer s H vs Q E hr h => ?body)
  case len => obtain ⟨m, dx, p, dC, dU, lm, most, sh, es, mo, g, c, k, rfl, _⟩ := h; rfl
  case body =>
    obtain ⟨m, dx, p, dC, dU, lm, most, sh, es, mo, g, c, k, rfl, M, hL, hk, hl, q⟩ := h
    have hm := M.hm
    have h8 : sh.length ≤ 8 := by
      obtain ⟨_, _, _, _, _, _, _, _, _, _, h8⟩ := hL.P
      exact h8
    have hcl := T.cl_PoolMeter
    have n1 := T.nf_PoolMeter_limit
    have n2 := T.nf_PoolMeter__costs
    have n3 := T.nf_PoolMeter__uses
    refine ⟨_, (pss_one (ps_if (pt_val (pe_call (ok_looks_at T) (hr.mono (by decide)) (by rfl) T.g_looks_at T.F_looks_at.kp T.b_looks_at .nil pass0 (pa_cons (pe_fldK (K := K) rfl (pv 0) rfl) (pa_cons (pv 2) pa_nil))))
   (pss_cons (ps_dput (hu_of hr) (pe_fldK (K := K) rfl (pv 0) rfl) (pv 4) (pe_tup (pa_cons (pv 2) (pa_cons (pv 3) pa_nil))) rfl)
  (pss_one (ps_dput (hu_of hr) (pe_fldK (K := K) rfl (pv 0) rfl) (pv 2) (pe_op op_add (pe_dget (hu_of hr) (pe_fldK (K := K) rfl (pv 0) rfl) (pv 2) (fun _ _ => rfl)) (pv 3)) rfl)))
   pss_nil)), ?_⟩
    try dsimp only [cxOf, Cx.nox]
    walk_at "go"
    refine ⟨p, lm, g, rfl, hL.1, hL.2.1, fun H1 hE1 => ?_⟩
    rw [hL.sees]
    have M1 := M.mono hE1
    have hm1 := M1.hm
    have hu1 := M1.hu
    have hne := M1.ne
    obtain ⟨ads, rfl, hc1, ht1⟩ := M1.hc
    have hll := costs_len hl
    have hlu := usesK_len (es := ads.map (·.2)) h8
    walk_at "go"
    refine w_ite (fun h0 => ?_) (fun h0 => ?_)
    · have hgm : g ∈ sh.map (·.1) := of_decide_eq_true h0
      walk_at "go"
      rename_i p1 hp1
      rw [costs_put (g := g) (c := c) hk]
      have e1 := Evl.Ex.new hp1 (o := .tup [.str g, .int c])
      have hc1' := ex_at e1 hc1
      have hm2 : (upd (upd H1 p1 (.tup [.str g, .int c])) dC (.dK (costsK (ads ++ [(p1, (k, g, c))])))) m = some (.ins a.c_PoolMeter dx (flP p dC dU)) := by
        rw [upd_ne (fun z => by rw [← z, hm1] at hc1; cases hc1)]
        exact ex_at e1 hm1
      have hu2 : (upd (upd H1 p1 (.tup [.str g, .int c])) dC (.dK (costsK (ads ++ [(p1, (k, g, c))])))) dU = some (.dK (usesK sh (ads.map (·.2)))) := by
        rw [upd_ne (Ne.symm hne)]
        exact ex_at e1 hu1
      have hc2 : (upd (upd H1 p1 (.tup [.str g, .int c])) dC (.dK (costsK (ads ++ [(p1, (k, g, c))])))) dC = some (.dK (costsK (ads ++ [(p1, (k, g, c))]))) := upd_same
      have eD : ExD dC dU H (upd (upd H1 p1 (.tup [.str g, .int c])) dC (.dK (costsK (ads ++ [(p1, (k, g, c))])))) := ExD.upM (ExD.of (hE1.trans e1))
      have ht2 : ∀ x ∈ ads ++ [(p1, (k, g, c))], SqT K (upd (upd H1 p1 (.tup [.str g, .int c])) dC (.dK (costsK (ads ++ [(p1, (k, g, c))])))) x.1 [.str x.2.2.1, .int x.2.2.2] := fun x hx => by
        rcases List.mem_append.mp hx with hx | hx
        · exact sqT_updD hc1' (ex_sqT e1 (ht1 x hx))
        · rw [List.mem_singleton] at hx
          rw [hx]
          exact sqT_updD hc1' (.inl (.inl upd_same))
      generalize upd (upd H1 p1 (.tup [.str g, .int c])) dC (.dK (costsK (ads ++ [(p1, (k, g, c))]))) = H2 at *
      walk_at "go"
      refine g_dgetS hu2 (uses_val hgm) ?_
      walk_at "go"
      rw [uses_put (es2 := ads.map (·.2) ++ [(k, g, c)]) hgm (fun s _ => by
        rw [useP_snoc]
        show useP _ s.1 + (if g = s.1 then c else 0) = _
        by_cases h : s.1 = g
        · rw [if_pos h.symm, if_pos h, h]
        · rw [if_neg (fun z => h z.symm), if_neg h, Int.add_zero])]
      refine q _ (ExD.upD eD) ?_
      rw [if_pos h0]
      refine ⟨?_, ⟨ads ++ [(p1, (k, g, c))], by rw [List.map_append]; rfl, by rw [upd_ne hne]; exact hc2, fun x hx => sqT_updD hu2 (ht2 x hx)⟩, upd_same, hne, fun e he => ?_⟩
      · rw [upd_ne (fun z => by rw [← z, hm2] at hu2; cases hu2)]
        exact hm2
      · rcases List.mem_append.mp he with he | he
        · exact M.hg e he
        · rw [List.mem_singleton] at he
          rw [he]
          exact hgm
    · walk_at "go"
      refine q _ (ExD.of hE1) ?_
      rw [if_neg (by rw [h0]; decide)]
      exact M1
theorem mheld_M_room (T : Txt P w K mg a) : ∀ C sp, S_M_room K a C sp → MHeld P w K mg base 4 "room" C sp := fun C sp h => by
  obtain ⟨st0, rfl, rfl⟩ := h
  cases st0 with
  | win _ =>
    refine ⟨T.cl_WindowMeter, _, _, _, T.me_WindowMeter_room, ((ok_WindowMeter_room T).mono (by decide)).imp (fun vs H Q E h => ?_), T.b_WindowMeter_room⟩
    obtain ⟨m, p, F, l, st, g, c, t, rfl, hk, hM, hL, hok, hSh, hz, q⟩ := h
    cases st with
    | win ps =>
      obtain ⟨rfl, dx, pS, qs, h1, h2, rfl⟩ := hM
      exact ⟨m, dx, p, pS, l, nA l, nB l, qs, t, g, c, rfl, h1, ⟨hL, hok, hSh.1⟩, hSh.2.1, h2, by have := hz; show _ ≤ _; rw [show sizeM (.win (qs.map (·.2))) = (qs.map (·.2)).length from rfl, List.length_map] at this; exact this, fun H' e => q H' e⟩
    | span _ _ => exact absurd hk (by simp [kindM])
    | buck _ _ => exact absurd hk (by simp [kindM])
    | gap _ => exact absurd hk (by simp [kindM])
    | held _ => exact absurd hk (by simp [kindM])
    | pool _ => exact absurd hk (by simp [kindM])
  | span _ _ =>
    refine ⟨T.cl_SpanMeter, _, _, _, T.me_SpanMeter_room, ((ok_SpanMeter_room T).mono (by decide)).imp (fun vs H Q E h => ?_), T.b_SpanMeter_room⟩
    obtain ⟨m, p, F, l, st, g, c, t, rfl, hk, hM, hL, hok, hSh, hz, q⟩ := h
    cases st with
    | win _ => exact absurd hk (by simp [kindM])
    | span sp us =>
      obtain ⟨rfl, dx, h1⟩ := hM
      exact ⟨m, dx, p, l, nA l, nB l, sp, us, t, g, c, rfl, h1, ⟨hL, hok, hSh.1⟩, hSh.2.1, hSh.2.2, fun H' e => q H' e⟩
    | buck _ _ => exact absurd hk (by simp [kindM])
    | gap _ => exact absurd hk (by simp [kindM])
    | held _ => exact absurd hk (by simp [kindM])
    | pool _ => exact absurd hk (by simp [kindM])
  | buck _ _ =>
    refine ⟨T.cl_BucketMeter, _, _, _, T.me_BucketMeter_room, ((ok_BucketMeter_room T).mono (by decide)).imp (fun vs H Q E h => ?_), T.b_BucketMeter_room⟩
    obtain ⟨m, p, F, l, st, g, c, t, rfl, hk, hM, hL, hok, hSh, hz, q⟩ := h
    cases st with
    | win _ => exact absurd hk (by simp [kindM])
    | span _ _ => exact absurd hk (by simp [kindM])
    | buck mi at_ =>
      obtain ⟨rfl, dx, h1⟩ := hM
      exact ⟨m, dx, p, l, nA l, nB l, mi, at_, t, g, c, rfl, h1, ⟨hL, hok, hSh.1⟩, hSh.2.1, hSh.2.2, fun H' e => q H' e⟩
    | gap _ => exact absurd hk (by simp [kindM])
    | held _ => exact absurd hk (by simp [kindM])
    | pool _ => exact absurd hk (by simp [kindM])
  | gap _ =>
    refine ⟨T.cl_GapMeter, _, _, _, T.me_GapMeter_room, ((ok_GapMeter_room T).mono (by decide)).imp (fun vs H Q E h => ?_), T.b_GapMeter_room⟩
    obtain ⟨m, p, F, l, st, g, c, t, rfl, hk, hM, hL, hok, hSh, hz, q⟩ := h
    cases st with
    | win _ => exact absurd hk (by simp [kindM])
    | span _ _ => exact absurd hk (by simp [kindM])
    | buck _ _ => exact absurd hk (by simp [kindM])
    | gap last =>
      obtain ⟨rfl, dx, h1⟩ := hM
      exact ⟨m, dx, p, l, nA l, last, t, g, c, rfl, h1, ⟨hL, hok, hSh⟩, fun H' e => q H' e⟩
    | held _ => exact absurd hk (by simp [kindM])
    | pool _ => exact absurd hk (by simp [kindM])
  | held _ =>
    refine ⟨T.cl_HeldMeter, _, _, _, T.me_HeldMeter_room, ((ok_HeldMeter_room T).mono (by decide)).imp (fun vs H Q E h => ?_), T.b_HeldMeter_room⟩
    obtain ⟨m, p, F, l, st, g, c, t, rfl, hk, hM, hL, hok, hSh, hz, q⟩ := h
    cases st with
    | win _ => exact absurd hk (by simp [kindM])
    | span _ _ => exact absurd hk (by simp [kindM])
    | buck _ _ => exact absurd hk (by simp [kindM])
    | gap _ => exact absurd hk (by simp [kindM])
    | held es =>
      obtain ⟨dx, d, rfl, h1⟩ := hM
      exact ⟨m, dx, p, d, l, nA l, es, t, g, c, rfl, h1, ⟨hL, hok, hSh⟩, fun H' e => q H' e⟩
    | pool _ => exact absurd hk (by simp [kindM])
  | pool _ =>
    refine ⟨T.cl_PoolMeter, _, _, _, T.me_PoolMeter_room, ((ok_PoolMeter_room T).mono (by decide)).imp (fun vs H Q E h => ?_), T.b_PoolMeter_room⟩
    obtain ⟨m, p, F, l, st, g, c, t, rfl, hk, hM, hL, hok, hSh, hz, q⟩ := h
    cases st with
    | win _ => exact absurd hk (by simp [kindM])
    | span _ _ => exact absurd hk (by simp [kindM])
    | buck _ _ => exact absurd hk (by simp [kindM])
    | gap _ => exact absurd hk (by simp [kindM])
    | held _ => exact absurd hk (by simp [kindM])
    | pool es =>
      obtain ⟨dx, dC, dU, rfl, h1⟩ := hM
      exact ⟨m, dx, p, dC, dU, l, nA l, shL l, es, t, g, c, rfl, h1, ⟨hL, hok, hSh⟩, fun H' e => q H' e⟩
theorem mheld_M_earliest (T : Txt P w K mg a) : ∀ C sp, S_M_earliest K a C sp → MHeld P w K mg base 4 "earliest" C sp := fun C sp h => by
  obtain ⟨st0, rfl, rfl⟩ := h
  cases st0 with
  | win _ =>
    refine ⟨T.cl_WindowMeter, _, _, _, T.me_WindowMeter_earliest, ((ok_WindowMeter_earliest T).mono (by decide)).imp (fun vs H Q E h => ?_), T.b_WindowMeter_earliest⟩
    obtain ⟨m, p, F, l, st, g, c, t, rfl, hk, hM, hL, hok, hSh, hz, q⟩ := h
    cases st with
    | win ps =>
      obtain ⟨rfl, dx, pS, qs, h1, h2, rfl⟩ := hM
      exact ⟨m, dx, p, pS, l, nA l, nB l, qs, t, g, c, rfl, h1, ⟨hL, hok, hSh.1⟩, hSh.2.1, h2, by have := hz; show _ ≤ _; rw [show sizeM (.win (qs.map (·.2))) = (qs.map (·.2)).length from rfl, List.length_map] at this; exact this, fun H' e => q H' e⟩
    | span _ _ => exact absurd hk (by simp [kindM])
    | buck _ _ => exact absurd hk (by simp [kindM])
    | gap _ => exact absurd hk (by simp [kindM])
    | held _ => exact absurd hk (by simp [kindM])
    | pool _ => exact absurd hk (by simp [kindM])
  | span _ _ =>
    refine ⟨T.cl_SpanMeter, _, _, _, T.me_SpanMeter_earliest, ((ok_SpanMeter_earliest T).mono (by decide)).imp (fun vs H Q E h => ?_), T.b_SpanMeter_earliest⟩
    obtain ⟨m, p, F, l, st, g, c, t, rfl, hk, hM, hL, hok, hSh, hz, q⟩ := h
    cases st with
    | win _ => exact absurd hk (by simp [kindM])
    | span sp us =>
      obtain ⟨rfl, dx, h1⟩ := hM
      exact ⟨m, dx, p, l, nA l, nB l, sp, us, t, g, c, rfl, h1, ⟨hL, hok, hSh.1⟩, hSh.2.1, hSh.2.2, fun H' e => q H' e⟩
    | buck _ _ => exact absurd hk (by simp [kindM])
    | gap _ => exact absurd hk (by simp [kindM])
    | held _ => exact absurd hk (by simp [kindM])
    | pool _ => exact absurd hk (by simp [kindM])
  | buck _ _ =>
    refine ⟨T.cl_BucketMeter, _, _, _, T.me_BucketMeter_earliest, ((ok_BucketMeter_earliest T).mono (by decide)).imp (fun vs H Q E h => ?_), T.b_BucketMeter_earliest⟩
    obtain ⟨m, p, F, l, st, g, c, t, rfl, hk, hM, hL, hok, hSh, hz, q⟩ := h
    cases st with
    | win _ => exact absurd hk (by simp [kindM])
    | span _ _ => exact absurd hk (by simp [kindM])
    | buck mi at_ =>
      obtain ⟨rfl, dx, h1⟩ := hM
      exact ⟨m, dx, p, l, nA l, nB l, mi, at_, t, g, c, rfl, h1, ⟨hL, hok, hSh.1⟩, hSh.2.1, hSh.2.2, fun H' e => q H' e⟩
    | gap _ => exact absurd hk (by simp [kindM])
    | held _ => exact absurd hk (by simp [kindM])
    | pool _ => exact absurd hk (by simp [kindM])
  | gap _ =>
    refine ⟨T.cl_GapMeter, _, _, _, T.me_GapMeter_earliest, ((ok_GapMeter_earliest T).mono (by decide)).imp (fun vs H Q E h => ?_), T.b_GapMeter_earliest⟩
    obtain ⟨m, p, F, l, st, g, c, t, rfl, hk, hM, hL, hok, hSh, hz, q⟩ := h
    cases st with
    | win _ => exact absurd hk (by simp [kindM])
    | span _ _ => exact absurd hk (by simp [kindM])
    | buck _ _ => exact absurd hk (by simp [kindM])
    | gap last =>
      obtain ⟨rfl, dx, h1⟩ := hM
      exact ⟨m, dx, p, l, nA l, last, t, g, c, rfl, h1, ⟨hL, hok, hSh⟩, fun H' e => q H' e⟩
    | held _ => exact absurd hk (by simp [kindM])
    | pool _ => exact absurd hk (by simp [kindM])
  | held _ =>
    refine ⟨T.cl_HeldMeter, _, _, _, T.me_HeldMeter_earliest, ((ok_HeldMeter_earliest T).mono (by decide)).imp (fun vs H Q E h => ?_), T.b_HeldMeter_earliest⟩
    obtain ⟨m, p, F, l, st, g, c, t, rfl, hk, hM, hL, hok, hSh, hz, q⟩ := h
    cases st with
    | win _ => exact absurd hk (by simp [kindM])
    | span _ _ => exact absurd hk (by simp [kindM])
    | buck _ _ => exact absurd hk (by simp [kindM])
    | gap _ => exact absurd hk (by simp [kindM])
    | held es =>
      obtain ⟨dx, d, rfl, h1⟩ := hM
      exact ⟨m, dx, p, d, l, nA l, es, t, g, c, rfl, h1, ⟨hL, hok, hSh⟩, fun H' e => q H' e⟩
    | pool _ => exact absurd hk (by simp [kindM])
  | pool _ =>
    refine ⟨T.cl_PoolMeter, _, _, _, T.me_PoolMeter_earliest, ((ok_PoolMeter_earliest T).mono (by decide)).imp (fun vs H Q E h => ?_), T.b_PoolMeter_earliest⟩
    obtain ⟨m, p, F, l, st, g, c, t, rfl, hk, hM, hL, hok, hSh, hz, q⟩ := h
    cases st with
    | win _ => exact absurd hk (by simp [kindM])
    | span _ _ => exact absurd hk (by simp [kindM])
    | buck _ _ => exact absurd hk (by simp [kindM])
    | gap _ => exact absurd hk (by simp [kindM])
    | held _ => exact absurd hk (by simp [kindM])
    | pool es =>
      obtain ⟨dx, dC, dU, rfl, h1⟩ := hM
      exact ⟨m, dx, p, dC, dU, l, nA l, shL l, es, t, g, c, rfl, h1, ⟨hL, hok, hSh⟩, fun H' e => q H' e⟩
theorem mheld_M_let (T : Txt P w K mg a) : ∀ C sp, S_M_let K a C sp → MHeld P w K mg base 4 "let" C sp := fun C sp h => by
  obtain ⟨st0, rfl, rfl⟩ := h
  cases st0 with
  | win _ =>
    refine ⟨T.cl_WindowMeter, _, _, _, T.me_WindowMeter_let, ((ok_WindowMeter_let T).mono (by decide)).imp (fun vs H Q E h => ?_), T.b_WindowMeter_let⟩
    obtain ⟨m, p, F, l, st, g, c, t, k, rfl, hk, hM, hL, hok, hSh, hz, hfr, q⟩ := h
    cases st with
    | win ps =>
      obtain ⟨rfl, dx, pS, qs, h1, h2, rfl⟩ := hM
      refine ⟨m, dx, p, pS, l, nA l, nB l, qs, t, g, c, k, rfl, h1, ⟨hL, hok, hSh.1⟩, hSh.2.1, h2, by have := hz; show _ ≤ _; rw [show sizeM (.win (qs.map (·.2))) = (qs.map (·.2)).length from rfl, List.length_map] at this; exact this, fun pS2 qs2 H' hfr2 eP hm' hU' _ hq2 => q H' (fun b o hb h => eP b o (fun z => hb (by rw [z]; exact List.mem_cons_self)) h) ?_ (fun D hD hn => NS.winI hm' (by
        rcases hfr2 with rfl | hfr2
        · exact hn _ _ _ _ _ _ h1
        · exact fun y => hD (by rw [← y]; exact hfr2)))⟩
      have e : letM l k g c t (.win (qs.map (·.2))) = .win (qs2.map (·.2)) := by
        rw [hq2]
        unfold letM
        cases seesL l g <;> rfl
      rw [e]
      exact ⟨rfl, dx, pS2, qs2, hm', hU', rfl⟩
    | span _ _ => exact absurd hk (by simp [kindM])
    | buck _ _ => exact absurd hk (by simp [kindM])
    | gap _ => exact absurd hk (by simp [kindM])
    | held _ => exact absurd hk (by simp [kindM])
    | pool _ => exact absurd hk (by simp [kindM])
  | span _ _ =>
    refine ⟨T.cl_SpanMeter, _, _, _, T.me_SpanMeter_let, ((ok_SpanMeter_let T).mono (by decide)).imp (fun vs H Q E h => ?_), T.b_SpanMeter_let⟩
    obtain ⟨m, p, F, l, st, g, c, t, k, rfl, hk, hM, hL, hok, hSh, hz, hfr, q⟩ := h
    cases st with
    | win _ => exact absurd hk (by simp [kindM])
    | span sp us =>
      obtain ⟨rfl, dx, h1⟩ := hM
      have qq := fun (H' : Hp) e hM => q H' e hM (fun D _ _ => NS.kind hM (by rw [letM_kind]; exact Nat.succ_ne_zero _))
      refine ⟨m, dx, p, l, nA l, nB l, sp, us, t, g, c, k, rfl, h1, ⟨hL, hok, hSh.1⟩, hSh.2.1, hSh.2.2, fun H' eP hm' => qq H' (fun b o hb h => eP b o (fun z => hb (by rw [z]; exact List.mem_cons_self)) h) ?_⟩
      unfold letM
      cases hs : seesL l g with
      | false => rw [hs] at hm'; exact ⟨rfl, dx, hm'⟩
      | true => rw [hs] at hm'; exact ⟨rfl, dx, hm'⟩
    | buck _ _ => exact absurd hk (by simp [kindM])
    | gap _ => exact absurd hk (by simp [kindM])
    | held _ => exact absurd hk (by simp [kindM])
    | pool _ => exact absurd hk (by simp [kindM])
  | buck _ _ =>
    refine ⟨T.cl_BucketMeter, _, _, _, T.me_BucketMeter_let, ((ok_BucketMeter_let T).mono (by decide)).imp (fun vs H Q E h => ?_), T.b_BucketMeter_let⟩
    obtain ⟨m, p, F, l, st, g, c, t, k, rfl, hk, hM, hL, hok, hSh, hz, hfr, q⟩ := h
    cases st with
    | win _ => exact absurd hk (by simp [kindM])
    | span _ _ => exact absurd hk (by simp [kindM])
    | buck mi at_ =>
      obtain ⟨rfl, dx, h1⟩ := hM
      have qq := fun (H' : Hp) e hM => q H' e hM (fun D _ _ => NS.kind hM (by rw [letM_kind]; exact Nat.succ_ne_zero _))
      refine ⟨m, dx, p, l, nA l, nB l, mi, at_, t, g, c, k, rfl, h1, ⟨hL, hok, hSh.1⟩, hSh.2.1, hSh.2.2, fun H' eP hm' => qq H' (fun b o hb h => eP b o (fun z => hb (by rw [z]; exact List.mem_cons_self)) h) ?_⟩
      unfold letM
      cases hs : seesL l g with
      | false => rw [hs] at hm'; exact ⟨rfl, dx, hm'⟩
      | true => rw [hs] at hm'; exact ⟨rfl, dx, hm'⟩
    | gap _ => exact absurd hk (by simp [kindM])
    | held _ => exact absurd hk (by simp [kindM])
    | pool _ => exact absurd hk (by simp [kindM])
  | gap _ =>
    refine ⟨T.cl_GapMeter, _, _, _, T.me_GapMeter_let, ((ok_GapMeter_let T).mono (by decide)).imp (fun vs H Q E h => ?_), T.b_GapMeter_let⟩
    obtain ⟨m, p, F, l, st, g, c, t, k, rfl, hk, hM, hL, hok, hSh, hz, hfr, q⟩ := h
    cases st with
    | win _ => exact absurd hk (by simp [kindM])
    | span _ _ => exact absurd hk (by simp [kindM])
    | buck _ _ => exact absurd hk (by simp [kindM])
    | gap last =>
      obtain ⟨rfl, dx, h1⟩ := hM
      have qq := fun (H' : Hp) e hM => q H' e hM (fun D _ _ => NS.kind hM (by rw [letM_kind]; exact Nat.succ_ne_zero _))
      refine ⟨m, dx, p, l, nA l, last, t, g, c, k, rfl, h1, ⟨hL, hok, hSh⟩, fun H' eP hm' => qq H' (fun b o hb h => eP b o (fun z => hb (by rw [z]; exact List.mem_cons_self)) h) ?_⟩
      unfold letM
      cases hs : seesL l g with
      | false => rw [hs] at hm'; exact ⟨rfl, dx, hm'⟩
      | true => rw [hs] at hm'; exact ⟨rfl, dx, hm'⟩
    | held _ => exact absurd hk (by simp [kindM])
    | pool _ => exact absurd hk (by simp [kindM])
  | held _ =>
    refine ⟨T.cl_HeldMeter, _, _, _, T.me_HeldMeter_let, ((ok_HeldMeter_let T).mono (by decide)).imp (fun vs H Q E h => ?_), T.b_HeldMeter_let⟩
    obtain ⟨m, p, F, l, st, g, c, t, k, rfl, hk, hM, hL, hok, hSh, hz, hfr, q⟩ := h
    cases st with
    | win _ => exact absurd hk (by simp [kindM])
    | span _ _ => exact absurd hk (by simp [kindM])
    | buck _ _ => exact absurd hk (by simp [kindM])
    | gap _ => exact absurd hk (by simp [kindM])
    | held es =>
      obtain ⟨dx, d, rfl, h1⟩ := hM
      have qq := fun (H' : Hp) e hM => q H' e hM (fun D _ _ => NS.kind hM (by rw [letM_kind]; exact Nat.succ_ne_zero _))
      refine ⟨m, dx, p, d, l, nA l, es, t, g, c, k, rfl, h1, ⟨hL, hok, hSh⟩, hfr, hz, fun H' eP hm' => qq H' (fun b o hb h => eP b o (fun z => hb (by rw [z]; exact List.mem_cons_self)) (fun z => hb (by rw [z]; exact List.mem_cons_of_mem _ List.mem_cons_self)) h) ?_⟩
      unfold letM
      cases hs : seesL l g with
      | false => rw [hs] at hm'; exact ⟨dx, d, rfl, hm'⟩
      | true => rw [hs] at hm'; exact ⟨dx, d, rfl, hm'⟩
    | pool _ => exact absurd hk (by simp [kindM])
  | pool _ =>
    refine ⟨T.cl_PoolMeter, _, _, _, T.me_PoolMeter_let, ((ok_PoolMeter_let T).mono (by decide)).imp (fun vs H Q E h => ?_), T.b_PoolMeter_let⟩
    obtain ⟨m, p, F, l, st, g, c, t, k, rfl, hk, hM, hL, hok, hSh, hz, hfr, q⟩ := h
    cases st with
    | win _ => exact absurd hk (by simp [kindM])
    | span _ _ => exact absurd hk (by simp [kindM])
    | buck _ _ => exact absurd hk (by simp [kindM])
    | gap _ => exact absurd hk (by simp [kindM])
    | held _ => exact absurd hk (by simp [kindM])
    | pool es =>
      obtain ⟨dx, dC, dU, rfl, h1⟩ := hM
      have qq := fun (H' : Hp) e hM => q H' e hM (fun D _ _ => NS.kind hM (by rw [letM_kind]; exact Nat.succ_ne_zero _))
      refine ⟨m, dx, p, dC, dU, l, nA l, shL l, es, t, g, c, k, rfl, h1, ⟨hL, hok, hSh⟩, hfr, hz, fun H' eP hm' => qq H' (fun b o hb h => eP b o (fun z => hb (by rw [z]; exact List.mem_cons_of_mem _ List.mem_cons_self)) (fun z => hb (by rw [z]; exact List.mem_cons_of_mem _ (List.mem_cons_of_mem _ List.mem_cons_self))) h) ?_⟩
      have hsp : seesP (shL l) g = seesL l g := by unfold seesL seesP; rw [hSh]
      rw [hsp] at hm'
      unfold letM
      cases hs : seesL l g with
      | false => rw [hs] at hm'; exact ⟨dx, dC, dU, rfl, hm'⟩
      | true => rw [hs] at hm'; exact ⟨dx, dC, dU, rfl, hm'⟩
theorem ok_meter_for (T : Txt P w K mg a) : FnOk P w K mg base CX0 3 a.f_meter_for a.d_meter_for ["limit"] (sp_meter_for K a) := by
  refine T.F_meter_for.ok sc_meter_for (fun vs H Q E h => ?len) (fun cdv A outer s H vs Q E hr h => ?body)
  case len => obtain ⟨p, l, rfl, _⟩ := h; rfl
  case body =>
    obtain ⟨p, l, rfl, hL, hok, q⟩ := h
    obtain ⟨pg, pn, l1, _, _⟩ := id hL
    have qq : ∀ (m : Addr) (F : List Addr) H', Ex H H' → (∀ b ∈ F, H b = none) → (newM l = .span 0 0 ∨ newM l = .buck 0 0 ∨ newM l = .gap none ∨ newM l = .held [] ∨ newM l = .pool []) → MetAt K (clsA a) H' m p F l (newM l) → Q (.ref m) H' := fun m F H' e hF hw hM => q m F H' e hF (fun D hD o => hM.updN (fun b hb z => hD (by rw [← z]; exact hF b hb)) hw) hM
    refine ⟨_, (pss_cons (ps_set (i := 1) sc_meter_for.nd rfl (Or.inl rfl) (pe_ix (ix_tupK (K := K) rfl) (pv 0) pe_int (fun _ _ => rfl)))
  (pss_cons (ps_if (pt_cmpR op_eq (pv 1) pe_str (nomark _))
   (pss_one (ps_ret (pe_make T.k_WindowMeter (ok_WindowMeter_init T) (hr.mono (by decide)) (by rfl) T.g_WindowMeter T.b_WindowMeter_init .nil pass0 (pa_cons (pv 0) pa_nil))))
   pss_nil)
  (pss_cons (ps_if (pt_cmpR op_eq (pv 1) pe_str (nomark _))
   (pss_one (ps_ret (pe_make T.k_SpanMeter (ok_SpanMeter_init T) (hr.mono (by decide)) (by rfl) T.g_SpanMeter T.b_SpanMeter_init .nil pass0 (pa_cons (pv 0) pa_nil))))
   pss_nil)
  (pss_cons (ps_if (pt_cmpR op_eq (pv 1) pe_str (nomark _))
   (pss_one (ps_ret (pe_make T.k_BucketMeter (ok_BucketMeter_init T) (hr.mono (by decide)) (by rfl) T.g_BucketMeter T.b_BucketMeter_init .nil pass0 (pa_cons (pv 0) pa_nil))))
   pss_nil)
  (pss_cons (ps_if (pt_cmpR op_eq (pv 1) pe_str (nomark _))
   (pss_one (ps_ret (pe_make T.k_GapMeter (ok_GapMeter_init T) (hr.mono (by decide)) (by rfl) T.g_GapMeter T.b_GapMeter_init .nil pass0 (pa_cons (pv 0) pa_nil))))
   pss_nil)
  (pss_cons (ps_if (pt_cmpR op_eq (pv 1) pe_str (nomark _))
   (pss_one (ps_ret (pe_make T.k_HeldMeter (ok_HeldMeter_init T) (hr.mono (by decide)) (by rfl) T.g_HeldMeter T.b_HeldMeter_init .nil pass0 (pa_cons (pv 0) pa_nil))))
   pss_nil)
  (pss_one (ps_ret (pe_make T.k_PoolMeter (ok_PoolMeter_init T) (hr.mono (by decide)) (by rfl) T.g_PoolMeter T.b_PoolMeter_init .nil pass0 (pa_cons (pv 0) pa_nil)))))))))), ?_⟩
    try dsimp only [cxOf, Cx.nox]
    walk_at "go"
    refine w_dec (fun hw => ?_) (fun hw1 => ?_)
    · walk_at "go"
      intro m dx hm hdx hne
      have hEm := ex_made (C := a.c_WindowMeter) hm hdx hne
      have hm0 : upd (upd H dx (.own m)) m (.ins a.c_WindowMeter dx []) m = some (.ins a.c_WindowMeter dx []) := upd_same
      generalize upd (upd H dx (.own m)) m (.ins a.c_WindowMeter dx []) = Hm at *
      obtain ⟨A, B, hn, _⟩ := lm_two hok (.inl hw)
      have eA : nA l = A := by unfold nA; rw [hn]; rfl
      have eB : nB l = B := by unfold nB; rw [hn]; rfl
      have e : newM l = .win [] := by unfold newM; rw [hn]; dsimp only; rw [if_pos hw]
      refine ⟨m, dx, p, l, A, B, rfl, hm0, ⟨hL.mono hEm, hok, hn⟩, fun pS H2 hpS eP hm2 hU => ⟨rfl, q m [m] H2 (eP.toEx hEm hm) (fun b hb => by rw [List.mem_singleton.mp hb]; exact hm) (fun D hD o => ?_) ?_⟩⟩
      · rw [e]
        exact MetAt.updW (by rw [eA, eB]; exact hm2) hU (fun z => hD (by rw [← z]; exact hm)) (fun z => hD (by rw [← z]; exact ex_free hEm hpS))
      rw [e]
      exact ⟨rfl, dx, pS, [], by rw [eA, eB]; exact hm2, hU, rfl⟩
    walk_at "go"
    refine w_dec (fun hw => ?_) (fun hw2 => ?_)
    · walk_at "go"
      intro m dx hm hdx hne
      have hEm := ex_made (C := a.c_SpanMeter) hm hdx hne
      have hm0 : upd (upd H dx (.own m)) m (.ins a.c_SpanMeter dx []) m = some (.ins a.c_SpanMeter dx []) := upd_same
      generalize upd (upd H dx (.own m)) m (.ins a.c_SpanMeter dx []) = Hm at *
      obtain ⟨A, B, hn, _⟩ := lm_two hok (.inr (.inl hw))
      have eA : nA l = A := by unfold nA; rw [hn]; rfl
      have eB : nB l = B := by unfold nB; rw [hn]; rfl
      have e : newM l = .span 0 0 := by unfold newM; rw [hn]; dsimp only; rw [if_neg (by rw [hw]; decide +kernel)]; rw [if_pos hw]
      refine ⟨m, dx, p, l, A, B, rfl, hm0, ⟨hL.mono hEm, hok, hn⟩, fun H2 eP hm2 => ⟨rfl, qq m [m] H2 (eP.toEx hEm hm) (fun b hb => by rw [List.mem_singleton.mp hb]; exact hm) (by rw [e]; simp) ?_⟩⟩
      rw [e]
      exact ⟨rfl, dx, by rw [eA, eB]; exact hm2⟩
    walk_at "go"
    refine w_dec (fun hw => ?_) (fun hw3 => ?_)
    · walk_at "go"
      intro m dx hm hdx hne
      have hEm := ex_made (C := a.c_BucketMeter) hm hdx hne
      have hm0 : upd (upd H dx (.own m)) m (.ins a.c_BucketMeter dx []) m = some (.ins a.c_BucketMeter dx []) := upd_same
      generalize upd (upd H dx (.own m)) m (.ins a.c_BucketMeter dx []) = Hm at *
      obtain ⟨A, B, hn, _⟩ := lm_two hok (.inr (.inr hw))
      have eA : nA l = A := by unfold nA; rw [hn]; rfl
      have eB : nB l = B := by unfold nB; rw [hn]; rfl
      have e : newM l = .buck 0 0 := by unfold newM; rw [hn]; dsimp only; rw [if_neg (by rw [hw]; decide +kernel)]; rw [if_neg (by rw [hw]; decide +kernel)]; rw [if_pos hw]
      refine ⟨m, dx, p, l, A, B, rfl, hm0, ⟨hL.mono hEm, hok, hn⟩, fun H2 eP hm2 => ⟨rfl, qq m [m] H2 (eP.toEx hEm hm) (fun b hb => by rw [List.mem_singleton.mp hb]; exact hm) (by rw [e]; simp) ?_⟩⟩
      rw [e]
      exact ⟨rfl, dx, by rw [eA, eB]; exact hm2⟩
    walk_at "go"
    refine w_dec (fun hw => ?_) (fun hw4 => ?_)
    · walk_at "go"
      intro m dx hm hdx hne
      have hEm := ex_made (C := a.c_GapMeter) hm hdx hne
      have hm0 : upd (upd H dx (.own m)) m (.ins a.c_GapMeter dx []) m = some (.ins a.c_GapMeter dx []) := upd_same
      generalize upd (upd H dx (.own m)) m (.ins a.c_GapMeter dx []) = Hm at *
      obtain ⟨A, hn⟩ := lm_gap hok hw
      have eA : nA l = A := by unfold nA; rw [hn]; rfl
      have e : newM l = .gap none := by unfold newM; rw [hn]; dsimp only; rw [if_neg (by rw [hw]; decide +kernel)]; rw [if_neg (by rw [hw]; decide +kernel)]; rw [if_neg (by rw [hw]; decide +kernel)]; rw [if_pos hw]
      refine ⟨m, dx, p, l, A, rfl, hm0, ⟨hL.mono hEm, hok, hn⟩, fun H2 eP hm2 => ⟨rfl, qq m [m] H2 (eP.toEx hEm hm) (fun b hb => by rw [List.mem_singleton.mp hb]; exact hm) (by rw [e]; simp) ?_⟩⟩
      rw [e]
      exact ⟨rfl, dx, by rw [eA]; exact hm2⟩
    walk_at "go"
    refine w_dec (fun hw => ?_) (fun hw5 => ?_)
    · walk_at "go"
      intro m dx hm hdx hne
      have hEm := ex_made (C := a.c_HeldMeter) hm hdx hne
      have hm0 : upd (upd H dx (.own m)) m (.ins a.c_HeldMeter dx []) m = some (.ins a.c_HeldMeter dx []) := upd_same
      generalize upd (upd H dx (.own m)) m (.ins a.c_HeldMeter dx []) = Hm at *
      obtain ⟨A, hn⟩ := lm_held hok hw
      have eA : nA l = A := by unfold nA; rw [hn]; rfl
      have e : newM l = .held [] := by unfold newM; rw [hn]; dsimp only; rw [if_neg (by rw [hw]; decide +kernel)]; rw [if_neg (by rw [hw]; decide +kernel)]; rw [if_neg (by rw [hw]; decide +kernel)]; rw [if_neg (by rw [hw]; decide +kernel)]; skip
      refine ⟨m, dx, p, l, A, rfl, hm0, ⟨hL.mono hEm, hok, hn⟩, fun d H2 hd eP hM => ⟨rfl, qq m [m, d] H2 (eP.toEx hEm hm) (fun b hb => ?_) (by rw [e]; simp) ?_⟩⟩
      · rcases List.mem_cons.mp hb with rfl | hb
        · exact hm
        · rw [List.mem_singleton.mp hb]; exact ex_free hEm hd
      · rw [e]
        exact ⟨dx, d, rfl, by rw [eA]; exact hM⟩
    obtain ⟨A, sh, hn, h8⟩ := lm_else hok hw4 hw1 hw2 hw3 hw5
    have eA : nA l = A := by unfold nA; rw [hn]
    have eS : shL l = sh := by unfold shL; rw [hn]
    have o3 := hok.2.2
    rw [hn] at o3
    walk_at "go"
    intro m dx hm hdx hne
    have hEm := ex_made (C := a.c_PoolMeter) hm hdx hne
    have hm0 : upd (upd H dx (.own m)) m (.ins a.c_PoolMeter dx []) m = some (.ins a.c_PoolMeter dx []) := upd_same
    generalize upd (upd H dx (.own m)) m (.ins a.c_PoolMeter dx []) = Hm at *
    have hsk : ShOk sh := ⟨asc_nodup o3.2.2.2.2.1, fun s hs => ⟨(o3.2.2.2.2.2.1 s hs).2.1, (o3.2.2.2.2.2.1 s hs).2.2.1⟩, fun s hs => isName_ok (o3.2.2.2.2.2.1 s hs).1, h8⟩
    have e : newM l = .pool [] := by unfold newM; rw [hn]
    refine ⟨m, dx, p, l, A, sh, rfl, hm0, ⟨hL.mono hEm, hok, hn⟩, hsk, fun dC dU H2 hdC hdU eP hM => ⟨rfl, qq m [m, dC, dU] H2 (eP.toEx hEm hm) (fun b hb => ?_) (by rw [e]; simp) ?_⟩⟩
    · rcases List.mem_cons.mp hb with rfl | hb
      · exact hm
      · rcases List.mem_cons.mp hb with rfl | hb
        · exact ex_free hEm hdC
        · rw [List.mem_singleton.mp hb]; exact ex_free hEm hdU
    · rw [e]
      exact ⟨dx, dC, dU, rfl, by rw [eS]; exact hM⟩
theorem ok_Book_limits (T : Txt P w K mg a) : FnOk P w K mg base CX0 1 a.f_Book_limits a.d_Book_limits ["self"] (sp_Book_limits K a) := by
  refine T.F_Book_limits.ok sc_Book_limits (fun vs H Q E h => ?len) (fun cdv A outer s H vs Q E hr h => ?body)
  case len => obtain ⟨b, xs, rfl, _⟩ := h; rfl
  case body =>
    obtain ⟨b, xs, rfl, hB, q⟩ := h
    obtain ⟨dx, B, hb, hBl, hL, hok, hl8⟩ := hB
    have hcl := T.cl_Book
    have n1 := T.nf_Book__limits
    refine ⟨_, (pss_one (ps_ret (pe_callTy (call_listK (K := K) rfl) (by rfl) T.z_list (by decide +kernel) (pa_cons (pe_fldK (K := K) rfl (pv 0) rfl) pa_nil)))), ?_⟩
    try dsimp only [cxOf, Cx.nox]
    walk_at "go"
    rename_i pl hpl
    exact q pl _ hpl (Evl.Ex.new hpl) upd_same
theorem ok_is_key (T : Txt P w K mg a) : FnOk P w K mg base CX0 1 a.f_is_key a.d_is_key ["text"] (sp_is_key K) := by
  refine T.F_is_key.ok sc_is_key (fun vs H Q E h => ?len) (fun cdv A outer s H vs Q E hr h => ?body)
  case len => obtain ⟨z, rfl, _⟩ := h; rfl
  case body =>
    obtain ⟨z, rfl, hz, q⟩ := h
    refine ⟨_, (pss_one (ps_ret (pe_and (pe_chain op_le op_le pe_int (pe_callB call_lenSN (by rfl) T.z_len (by decide +kernel) (pa_cons (pv 0) pa_nil)) pe_int) (pe_one (pe_callB (cr_allK (K := K) rfl rfl) (by rfl) T.z_all (by decide +kernel) (pa_cons (pe_lc (own := [("letter", 1)]) (g := gName 1) (tt := tYes) rfl sc_is_key.nd (pi_str (pv 0)) (blkOk_by (own := [("letter", 1)]) (N := ["text", "letter"]) (sc := defScope s_is_key) (by decide +kernel)) (fun _ _ _ _ _ => (pg_name (i := 1) sc_is_key.nd rfl (Or.inl rfl))) (fun _ _ _ _ _ => pts_nil) (fun _ _ _ _ _ => (pe_or (pe_cmpR op_inSN (pv 1) (pe_globE T.c_LETTERS (by rfl)) rfl) (pe_one (pe_cmpR op_eq (pv 1) pe_str (nomark _)))))) pa_nil)))))), ?_⟩
    try dsimp only [cxOf, Cx.nox]
    walk_at "go"
    refine w_dec (fun h1 => ?_) (fun h1 => ?_)
    · walk_at "go"
      refine w_dec (fun h2 => ?_) (fun h2 => ?_)
      · walk_at "go"
        refine lc_str (fun c => .bl (inLet c || decide (c = 45))) (by omega) (fun c hc H1 e1 R hR => ?_) (fun p H' hp hE hL => ?_)
        · walk_at "go"
          refine w_dec (fun h3 => ?_) (fun h3 => ?_)
          · have r := hR H1 (Evl.Ex.refl _)
            rw [show inLet c = true from decide_eq_true h3] at r
            exact r
          · walk_at "go"
            have r := hR H1 (Evl.Ex.refl _)
            rw [show inLet c = false from decide_eq_false h3, Bool.false_or] at r
            have e : decide ((⟨#[c]⟩ : Str) = ("-" : Str)) = decide (c = 45) := by
              rw [Bool.eq_iff_iff, decide_eq_true_eq, decide_eq_true_eq]
              constructor
              · intro h4
                have := congrArg tl h4
                exact (List.cons.inj this).1
              · rintro rfl; decide +kernel
            rw [e]
            exact r
        · walk_at "go"
          have e : isKey z = (tl z).all fun c => inLet c || decide (c = 45) := by
            unfold isKey
            rw [decide_eq_true h1, decide_eq_true h2, Bool.true_and, Bool.true_and]
          have q1 := q H' hE
          rw [e] at q1
          exact q1
      · walk_at "go"
        have e : isKey z = false := by
          unfold isKey
          rw [decide_eq_false h2, Bool.and_false, Bool.false_and]
        have q1 := q H (Evl.Ex.refl _)
        rw [e] at q1
        exact q1
    · walk_at "go"
      have e : isKey z = false := by
        unfold isKey
        rw [decide_eq_false h1, Bool.false_and, Bool.false_and]
      have q1 := q H (Evl.Ex.refl _)
      rw [e] at q1
      exact q1
theorem ok_Answer_init (T : Txt P w K mg a) : FnOk P w K mg base CX0 1 a.f_Answer_init a.d_Answer_init ["self", "key", "moment", "lacking", "earliest"] (sp_Answer_init K a) := by
  refine T.F_Answer_init.ok sc_Answer_init (fun vs H Q E h => ?len) (fun cdv A outer s H vs Q E hr h => ?body)
  case len => obtain ⟨m, dx, pn, k, mo, zs, e, rfl, _⟩ := h; rfl
  case body =>
    obtain ⟨m, dx, pn, k, mo, zs, e, rfl, hm, hZ, q⟩ := h
    have hcl := T.cl_Answer
    have n1 := T.nf_Answer_key
    have n2 := T.nf_Answer_moment
    have n3 := T.nf_Answer_lacking
    have n4 := T.nf_Answer_earliest
    have n5 := T.nf_Answer_is_let
    have hlm : (((zs.map V.str).length : Nat) : Int) = (zs.length : Int) := by rw [List.length_map]
    refine ⟨_, (pss_cons (ps_fldK (K := K) rfl (pv 0) (pv 1) rfl)
  (pss_cons (ps_fldK (K := K) rfl (pv 0) (pv 2) rfl)
  (pss_cons (ps_fldK (K := K) rfl (pv 0) (pv 3) rfl)
  (pss_cons (ps_fldK (K := K) rfl (pv 0) (pv 4) rfl)
  (pss_one (ps_fldK (K := K) rfl (pv 0) (pe_cmpR op_eq (pe_callB (call_lenK (K := K) rfl) (by rfl) T.z_len (by decide +kernel) (pa_cons (pv 3) pa_nil)) pe_int (nomark _)) rfl)))))), ?_⟩
    try dsimp only [cxOf, Cx.nox]
    walk_at "go"
    have p1 : putF "key" (V.str k) [] = [(("key" : Str), V.str k)] := rfl
    have p2 : putF "moment" (V.int mo) [(("key" : Str), V.str k)] = [(("key" : Str), V.str k), (("moment" : Str), V.int mo)] := putF_miss (by decide +kernel)
    have p3 : putF "lacking" (V.ref pn) [(("key" : Str), V.str k), (("moment" : Str), V.int mo)] = [(("key" : Str), V.str k), (("moment" : Str), V.int mo), (("lacking" : Str), V.ref pn)] := (putF_miss (by decide +kernel)).trans (congrArg _ (putF_miss (by decide +kernel)))
    have p4 : putF "earliest" (oN e) [(("key" : Str), V.str k), (("moment" : Str), V.int mo), (("lacking" : Str), V.ref pn)] = [(("key" : Str), V.str k), (("moment" : Str), V.int mo), (("lacking" : Str), V.ref pn), (("earliest" : Str), oN e)] := (putF_miss (by decide +kernel)).trans (congrArg _ ((putF_miss (by decide +kernel)).trans (congrArg _ (putF_miss (by decide +kernel)))))
    have p5 : ∀ b : Bool, putF "is_let" (V.bl b) [(("key" : Str), V.str k), (("moment" : Str), V.int mo), (("lacking" : Str), V.ref pn), (("earliest" : Str), oN e)] = flAn k mo pn e b := fun b => (putF_miss (by decide +kernel)).trans (congrArg _ ((putF_miss (by decide +kernel)).trans (congrArg _ ((putF_miss (by decide +kernel)).trans (congrArg _ (putF_miss (by decide +kernel)))))))
    refine g_stF1 hm hcl n1 (by decide) ?_
    rw [p1]
    walk_at "go"
    refine g_stF1 upd_same hcl n2 (by show (1 : Nat) < 1000; decide) ?_
    rw [p2]
    walk_at "go"
    refine g_stF1 upd_same hcl n3 (by show (2 : Nat) < 1000; decide) ?_
    rw [p3]
    walk_at "go"
    refine g_stF1 upd_same hcl n4 (by show (3 : Nat) < 1000; decide) ?_
    rw [p4]
    have e3 : ExP m H (upd (upd (upd (upd H m (.ins a.c_Answer dx [(("key" : Str), V.str k)])) m (.ins a.c_Answer dx [(("key" : Str), V.str k), (("moment" : Str), V.int mo)])) m (.ins a.c_Answer dx [(("key" : Str), V.str k), (("moment" : Str), V.int mo), (("lacking" : Str), V.ref pn)])) m (.ins a.c_Answer dx [(("key" : Str), V.str k), (("moment" : Str), V.int mo), (("lacking" : Str), V.ref pn), (("earliest" : Str), oN e)])) := (((ExP.of (Evl.Ex.refl _)).upd.upd).upd).upd
    have hZ4 := exP_sqT hm e3 hZ
    have hm4 : upd (upd (upd (upd H m (.ins a.c_Answer dx [(("key" : Str), V.str k)])) m (.ins a.c_Answer dx [(("key" : Str), V.str k), (("moment" : Str), V.int mo)])) m (.ins a.c_Answer dx [(("key" : Str), V.str k), (("moment" : Str), V.int mo), (("lacking" : Str), V.ref pn)])) m (.ins a.c_Answer dx [(("key" : Str), V.str k), (("moment" : Str), V.int mo), (("lacking" : Str), V.ref pn), (("earliest" : Str), oN e)]) m = some (.ins a.c_Answer dx [(("key" : Str), V.str k), (("moment" : Str), V.int mo), (("lacking" : Str), V.ref pn), (("earliest" : Str), oN e)]) := upd_same
    generalize upd (upd (upd (upd H m (.ins a.c_Answer dx [(("key" : Str), V.str k)])) m (.ins a.c_Answer dx [(("key" : Str), V.str k), (("moment" : Str), V.int mo)])) m (.ins a.c_Answer dx [(("key" : Str), V.str k), (("moment" : Str), V.int mo), (("lacking" : Str), V.ref pn)])) m (.ins a.c_Answer dx [(("key" : Str), V.str k), (("moment" : Str), V.int mo), (("lacking" : Str), V.ref pn), (("earliest" : Str), oN e)]) = H4 at *
    walk_at "go"
    refine g_stF1 hm4 hcl n5 (by show (4 : Nat) < 1000; decide) ?_
    rw [hlm, p5, show decide ((zs.length : Int) = 0) = decide (zs.length = 0) from by rw [Bool.eq_iff_iff, decide_eq_true_eq, decide_eq_true_eq]; omega]
    exact q _ e3.upd ⟨dx, pn, upd_same, exP_sqT hm e3.upd hZ⟩
theorem ok_check_request (T : Txt P w K mg a) : FnOk P w K mg base CX0 2 a.f_check_request a.d_check_request ["key", "group", "cost"] (sp_check_request K) := by
  refine T.F_check_request.ok sc_check_request (fun vs H Q E h => ?len) (fun cdv A outer s H vs Q E hr h => ?body)
  case len => obtain ⟨k, g, c, rfl, _⟩ := h; rfl
  case body =>
    obtain ⟨k, g, c, rfl, hk, hg, hc0, hc1, q⟩ := h
    refine ⟨_, (pss_one (ps_if (PW.pt (pw_or (pt_not (pt_val (pe_call (ok_is_key T) (hr.mono (by decide)) (by rfl) T.g_is_key T.F_is_key.kp T.b_is_key .nil pass0 (pa_cons (pv 0) pa_nil)))) (pw_or (pt_not (pt_val (pe_call (ok_is_name T) (hr.mono (by decide)) (by rfl) T.g_is_name T.F_is_name.kp T.b_is_name .nil pass0 (pa_cons (pv 1) pa_nil)))) (pw_or1 (pt_not (pt_chain op_le op_le pe_int (pv 2) pe_int))))))
   (pss_one ps_never)
   pss_nil)), ?_⟩
    try dsimp only [cxOf, Cx.nox]
    walk_at "go"
    refine ⟨k, rfl, by have := isKey_len hk; omega, fun H1 hE1 => ?_⟩
    rw [hk]
    walk_at "go"
    refine ⟨g, rfl, by have := isName_len hg; omega, fun H2 hE2 => ?_⟩
    rw [hg]
    walk_at "go"
    refine w_dec (fun _ => ?_) (fun z => absurd hc0 z)
    walk_at "go"
    refine w_ndec (fun z => absurd hc1 z) (fun _ => ?_)
    exact q _ (hE1.trans hE2)
theorem ok_check_moment (T : Txt P w K mg a) : FnOk P w K mg base CX0 1 a.f_check_moment a.d_check_moment ["moment"] (sp_check_moment K) := by
  refine T.F_check_moment.ok sc_check_moment (fun vs H Q E h => ?len) (fun cdv A outer s H vs Q E hr h => ?body)
  case len => obtain ⟨t, rfl, _⟩ := h; rfl
  case body =>
    obtain ⟨t, rfl, h0, h1, q⟩ := h
    refine ⟨_, (pss_one (ps_if (pt_not (pt_chain op_le op_le pe_int (pv 0) (pe_globE T.c_MOST_MOMENT (by rfl))))
   (pss_one ps_never)
   pss_nil)), ?_⟩
    try dsimp only [cxOf, Cx.nox]
    walk_at "go"
    refine w_dec (fun _ => ?_) (fun z => absurd h0 z)
    walk_at "go"
    refine w_ndec (fun z => absurd h1 z) (fun _ => ?_)
    exact q
theorem ok_Answer_parts (T : Txt P w K mg a) : FnOk P w K mg base CX0 1 a.f_Answer_parts a.d_Answer_parts ["self"] (sp_Answer_parts K a) := by
  refine T.F_Answer_parts.ok sc_Answer_parts (fun vs H Q E h => ?len) (fun cdv A outer s H vs Q E hr h => ?body)
  case len => obtain ⟨m, k, mo, zs, e, rfl, _⟩ := h; rfl
  case body =>
    obtain ⟨m, k, mo, zs, e, rfl, hA, q⟩ := h
    obtain ⟨dx, pn, hm, hZ⟩ := id hA
    have hcl := T.cl_Answer
    have n1 := T.nf_Answer_key
    have n2 := T.nf_Answer_moment
    have n3 := T.nf_Answer_lacking
    have n4 := T.nf_Answer_earliest
    refine ⟨_, (pss_one (ps_ret (pe_tup (pa_cons (pe_fldK (K := K) rfl (pv 0) rfl) (pa_cons (pe_fldK (K := K) rfl (pv 0) rfl) (pa_cons (pe_fldK (K := K) rfl (pv 0) rfl) (pa_cons (pe_fldK (K := K) rfl (pv 0) rfl) pa_nil))))))), ?_⟩
    try dsimp only [cxOf, Cx.nox]
    walk_at "go"
    rename_i pt hpt
    exact q pt pn _ (Evl.Ex.new hpt) (.inl (.inl upd_same)) (ex_sqT (Evl.Ex.new hpt) hZ)
theorem ok_Keeper_init (T : Txt P w K mg a) : FnOk P w K mg base CX0 4 a.f_Keeper_init a.d_Keeper_init ["self", "book"] (sp_Keeper_init K a) := by
  refine T.F_Keeper_init.ok sc_Keeper_init (fun vs H Q E h => ?len) (fun cdv A outer s H vs Q E hr h => ?body)
  case len => obtain ⟨kp, dx, b, xs, rfl, _⟩ := h; rfl
  case body =>
    obtain ⟨kp, dx, b, xs, rfl, hm, hB, q⟩ := h
    have hcl := T.cl_Keeper
    have n1 := T.nf_Keeper_book
    have n2 := T.nf_Keeper_moment
    have n3 := T.nf_Keeper__meters
    have n4 := T.nf_Keeper__asked
    have n5 := T.nf_Keeper__released
    refine ⟨_, (pss_cons (ps_fldK (K := K) rfl (pv 0) (pv 1) rfl)
  (pss_cons (ps_fldK (K := K) rfl (pv 0) pe_non rfl)
  (pss_cons (ps_fldK (K := K) rfl (pv 0) (pe_lc (own := [("limit", 2)]) (g := gName 2) (tt := tYes) rfl sc_Keeper_init.nd (pi_listK (K := K) rfl (pe_prop (pv 1) T.cl_Book T.pr_Book_limits (ok_Book_limits T) (hr.mono (by decide)) T.b_Book_limits .nil pass0 rfl)) (blkOk_by (own := [("limit", 2)]) (N := ["self", "book", "limit"]) (sc := defScope s_Keeper_init) (by decide +kernel)) (fun _ _ _ _ _ => (pg_name (i := 2) sc_Keeper_init.nd rfl (Or.inl rfl))) (fun _ _ _ _ _ => pts_nil) (fun _ _ _ _ _ => (pe_tup (pa_cons (pe_ix (ix_tupK (K := K) rfl) (pv 2) pe_int (fun _ _ => rfl)) (pa_cons (pe_call (ok_meter_for T) (hr.mono (by decide)) (by rfl) T.g_meter_for T.F_meter_for.kp T.b_meter_for .nil pass0 (pa_cons (pv 2) pa_nil)) pa_nil))))) rfl)
  (pss_cons (ps_fldK (K := K) rfl (pv 0) pe_dnewK rfl)
  (pss_one (ps_fldK (K := K) rfl (pv 0) pe_dnewK rfl)))))), ?_⟩
    try dsimp only [cxOf, Cx.nox]
    walk_at "go"
    refine g_stF1 hm hcl n1 (by decide) ?_
    have e1 : ExP kp H (upd H kp (.ins a.c_Keeper dx (putF "book" (.ref b) []))) := ExP.upd (ExP.of (Evl.Ex.refl _))
    walk_at "go"
    refine g_stF1 upd_same hcl n2 (by show 1 < 1000; decide) ?_
    have e2 := ExP.upd (o := .ins a.c_Keeper dx (putF "moment" .non (putF "book" (.ref b) []))) e1
    have hm2 : upd (upd H kp (.ins a.c_Keeper dx (putF "book" (.ref b) []))) kp (.ins a.c_Keeper dx (putF "moment" .non (putF "book" (.ref b) []))) kp = some (.ins a.c_Keeper dx (putF "moment" .non (putF "book" (.ref b) []))) := upd_same
    have hB2 := hB.exP e2 hm
    clear e1
    generalize upd (upd H kp (.ins a.c_Keeper dx (putF "book" (.ref b) []))) kp (.ins a.c_Keeper dx (putF "moment" .non (putF "book" (.ref b) []))) = H2 at *
    obtain ⟨dxb, pB, hb2, _, hLs, hok, hx8⟩ := id hB2
    walk_at "go"
    refine ⟨b, xs, rfl, hB2, fun pl H3 hpl hE3 hL3 => ?_⟩
    walk_at "go"
    have hm3 := hE3 _ _ hm2
    refine lc_keep (C := clsA a) (xs := xs) (.inl (.inl hL3)) (by omega) (fun x hx H4 e4 R hR => ?_) (fun pM H4 ms hpM hE4 hA4 hml hst hF hMs => ?_)
    · have hLx : LmAt K H4 x.1 x.2 := (hLs x hx).mono (hE3.trans e4)
      obtain ⟨pg, pn, k1, _, _⟩ := id hLx
      walk_at "go"
      refine ⟨x.1, x.2, rfl, hLx, hok x hx, fun m F H5 e5 hF5 hD5 hM5 => ?_⟩
      walk_at "go"
      rename_i pt hpt
      refine hR ⟨pt, m, x.1, F, x.2, newM x.2⟩ _ (e5.trans (Evl.Ex.new hpt)) rfl rfl hF5 (fun D acc hD o => ?_)
      have hD6 : upd H5 pt (.tup [.str x.2.nm, .ref m]) D = some (.lst acc) := Evl.Ex.new hpt _ _ (e5 _ _ hD)
      have hne : pt ≠ D := fun y => by rw [y, e5 _ _ hD] at hpt; cases hpt
      exact ⟨.inl (.inl (by rw [upd_ne hne, upd_same])), (hD5 D (by rw [hD]; exact Option.some_ne_none _) o).mono (ex_upd (Evl.Ex.new hpt)), (hLx.mono (e5.trans (Evl.Ex.new hpt))).tr fun q vs y => sqT_upd hD6 y, hok x hx⟩
    have hm4 := hE4 _ _ hm3
    have hb4 := hMs.box
    walk_at "go"
    refine g_stF1 hm4 hcl n3 (by show 2 < 1000; decide) ?_
    have hm5 : upd H4 kp (.ins a.c_Keeper dx (putF "_meters" (.ref pM) (putF "moment" .non (putF "book" (.ref b) [])))) kp = some (.ins a.c_Keeper dx (putF "_meters" (.ref pM) (putF "moment" .non (putF "book" (.ref b) [])))) := upd_same
    have e5 : ExP kp H4 (upd H4 kp (.ins a.c_Keeper dx (putF "_meters" (.ref pM) (putF "moment" .non (putF "book" (.ref b) []))))) := ExP.upd (ExP.of (Evl.Ex.refl _))
    generalize upd H4 kp (.ins a.c_Keeper dx (putF "_meters" (.ref pM) (putF "moment" .non (putF "book" (.ref b) [])))) = H5 at *
    walk_at "go"
    rename_i pA hpA
    have hAk : pA ≠ kp := fun y => by rw [y, hm5] at hpA; cases hpA
    refine g_stF1 (ex_at (Evl.Ex.new hpA) hm5) hcl n4 (by show 3 < 1000; decide) ?_
    have hm6 : (upd (upd H5 pA (.dK [])) kp (.ins a.c_Keeper dx (putF "_asked" (.ref pA) (putF "_meters" (.ref pM) (putF "moment" .non (putF "book" (.ref b) [])))))) kp = some (.ins a.c_Keeper dx (putF "_asked" (.ref pA) (putF "_meters" (.ref pM) (putF "moment" .non (putF "book" (.ref b) []))))) := upd_same
    have hA6 : (upd (upd H5 pA (.dK [])) kp (.ins a.c_Keeper dx (putF "_asked" (.ref pA) (putF "_meters" (.ref pM) (putF "moment" .non (putF "book" (.ref b) [])))))) pA = some (.dK []) := by rw [upd_ne hAk, upd_same]
    have e6 : ExP kp H5 (upd (upd H5 pA (.dK [])) kp (.ins a.c_Keeper dx (putF "_asked" (.ref pA) (putF "_meters" (.ref pM) (putF "moment" .non (putF "book" (.ref b) [])))))) := ExP.upd (ExP.of (Evl.Ex.new hpA))
    generalize upd (upd H5 pA (.dK [])) kp (.ins a.c_Keeper dx (putF "_asked" (.ref pA) (putF "_meters" (.ref pM) (putF "moment" .non (putF "book" (.ref b) []))))) = H6 at *
    walk_at "go"
    rename_i pR hpR
    have hRk : pR ≠ kp := fun y => by rw [y, hm6] at hpR; cases hpR
    have hAR : pA ≠ pR := fun y => by rw [← y, hA6] at hpR; cases hpR
    refine g_stF1 (ex_at (Evl.Ex.new hpR) hm6) hcl n5 (by show 4 < 1000; decide) ?_
    rw [flK_new]
    have e7 : ExP kp H6 (upd (upd H6 pR (.dK [])) kp (.ins a.c_Keeper dx (flK b none pM pA pR))) := ExP.upd (ExP.of (Evl.Ex.new hpR))
    have e47 := e5.trans (e6.trans e7)
    have e04 : ExP kp H H4 := e2.trans (ExP.of (hE3.trans hE4))
    have a4 : H4 pA = none := exP_none e5 hAk hpA
    have r4 : H4 pR = none := exP_none (e5.trans e6) hRk hpR
    have hMk : pM ≠ kp := fun y => by rw [y, hm4] at hA4; cases hA4
    have hFk : ∀ x ∈ Fs ms, x ≠ kp := fun x hx y => by have := hF x hx; rw [y, hm3] at this; cases this
    have hF4 : ∀ x ∈ Fs ms, ∀ y, H4 y = none → x ≠ y := fun x hx y hy z => by
      rw [← z] at hy
      rcases hb4 x hx with ⟨_, _, _, w⟩ | ⟨_, w⟩ <;> (rw [hy] at w; cases w)
    refine q ⟨kp, b, pM, pA, pR⟩ ms _ rfl rfl (e04.trans e47) (fun x hx hxk => ?_) ⟨⟨dx, upd_same⟩, e47 _ _ hMk hA4, ?_, ?_, (fun x hx => nomatch hx), ?_, hAR, fun x hx => ⟨hFk x hx, hF4 x hx _ a4, hF4 x hx _ r4⟩⟩ hml hst
    · rcases List.mem_cons.mp hx with rfl | hx
      · exact absurd rfl hxk
      · rcases List.mem_cons.mp hx with rfl | hx
        · exact exP_none e04 hxk a4
        · rcases List.mem_cons.mp hx with rfl | hx
          · exact exP_none e04 hxk r4
          · exact exP_none (e2.trans (ExP.of hE3)) hxk (hF x hx)
    · refine hMs.frame (G := [kp]) (fun x o hx ho => e47 x o (fun y => hx (by rw [y]; exact List.mem_cons_self)) ho) (fun x hx => ?_) (fun x hx y => hFk x hx (List.mem_singleton.mp y))
      rw [List.mem_singleton.mp hx]
      exact .inl ⟨_, _, _, hm4⟩
    · rw [upd_ne hAk, upd_ne hAR]
      exact hA6
    · rw [upd_ne hRk, upd_same]
      rfl
theorem ok_Keeper__check_next (T : Txt P w K mg a) : FnOk P w K mg base CX0 1 a.f_Keeper__check_next a.d_Keeper__check_next ["self", "moment"] (sp_Keeper__check_next K a) := by
  refine T.F_Keeper__check_next.ok sc_Keeper__check_next (fun vs H Q E h => ?len) (fun cdv A outer s H vs Q E hr h => ?body)
  case len => obtain ⟨z, ms, mo, as, rs, t, rfl, _⟩ := h; rfl
  case body =>
    obtain ⟨z, ms, mo, as, rs, t, rfl, hK, hmo, q⟩ := h
    obtain ⟨dx, hk⟩ := hK.hk
    have hcl := T.cl_Keeper
    have n2 := T.nf_Keeper_moment
    refine ⟨_, (pss_one (ps_if (PW.pt (pw_and (pt_cmpR op_notNN (pe_fldK (K := K) rfl (pv 0) rfl) pe_non (nomark _)) (pw_and1 (pt_cmpR op_lt (pv 1) (pe_fldK (K := K) rfl (pv 0) rfl) (nomark _)))))
   (pss_one ps_never)
   pss_nil)), ?_⟩
    try dsimp only [cxOf, Cx.nox]
    cases mo with
    | none =>
      have hk : H z.kp = some (.ins a.c_Keeper dx (flK z.b none z.pM z.pA z.pR)) := hk
      walk_at "go"
      rw [decide_eq_true (p := oN none = V.non) rfl]
      exact q
    | some m =>
      have hm := hmo m rfl
      walk_at "go"
      rw [decide_eq_false (p := oN (some m) = V.non) (fun y => V.noConfusion y)]
      walk_at "go"
      show rI0 (fun i j => V.bl (decide (i < j))) (V.int t) (.int m) H _
      walk_at "go"
      refine w_dec (fun y => absurd y (Int.not_lt.mpr hm)) (fun _ => ?_)
      exact q
theorem ok_Keeper__let (T : Txt P w K mg a) : FnOk P w K mg base CX0 5 a.f_Keeper__let a.d_Keeper__let ["self", "key", "group", "cost", "moment"] (sp_Keeper__let K a) := by
  refine T.F_Keeper__let.ok sc_Keeper__let (fun vs H Q E h => ?len) (fun cdv A outer s H vs Q E hr h => ?body)
  case len => obtain ⟨z, ms, mo, as, rs, k, g, c, t, rfl, _⟩ := h; rfl
  case body =>
    obtain ⟨z, ms, mo, as, rs, k, g, c, t, rfl, hK, hrd, hl8, q⟩ := h
    obtain ⟨dx, hk⟩ := hK.hk
    have hcl := T.cl_Keeper
    have n3 := T.nf_Keeper__meters
    have hM := hK.hM
    refine ⟨_, (pss_one (ps_for PassesOwn.never rfl (pi_listK (K := K) rfl (pe_fldK (K := K) rfl (pv 0) rfl)) (pg_tupK (K := K) rfl rfl (pgs_cons (pg_name (i := 5) sc_Keeper__let.nd rfl (Or.inl rfl)) (pgs_cons (pg_name (i := 6) sc_Keeper__let.nd rfl (Or.inl rfl)) pgs_nil)))
   (pss_one (ps_expr (pe_methV (S := S_M_let K a) (mheld_M_let T) (hr.mono (by decide)) (pv 6) (pa_cons (pv 4) (pa_cons (pv 2) (pa_cons (pv 3) (pa_cons (pv 1) pa_nil))))))))), ?_⟩
    try dsimp only [cxOf, Cx.nox]
    walk_at "go"
    refine l_it (walk_list (xs := ms.map MRec.rV)) (fun i σ' H' => ∃ v5 v6, σ' = [some (.ref z.kp), some (.str k), some (.str g), some (.int c), some (.int t), v5, v6] ∧ ExF (Fs ms) H H' ∧ MsAt K (clsA a) H' (letK (ms.take i) k g c t ++ ms.drop i) ∧ ∀ D, H D ≠ none → NSs H ms D → NSs H' ms D) ⟨_, _, rfl, ExF.of (Evl.Ex.refl _), hK.hms, fun _ _ h => h⟩ (fun i σ' H' _ hP => by obtain ⟨_, _, _, hE, _⟩ := hP; exact .inl (.inl (hE.lst hK.hms.box hM))) (fun i x σ' H1 H2 hi hP hY => ?_) (fun σ' H1 hP => ?_)
    · obtain ⟨v5, v6, rfl, hE, hMs, hNS⟩ := hP
      obtain ⟨rfl, hx3⟩ := hY
      rw [List.getElem?_map] at hx3
      cases e : ms[i]? with
      | none => rw [e] at hx3; cases hx3
      | some r =>
        rw [e] at hx3
        have ex : r.rV = x := Option.some.inj hx3
        subst ex
        have hr := List.mem_of_getElem? e
        have hD : ms.drop i = r :: ms.drop (i + 1) := drop_at e
        rw [hD] at hMs
        have hO := hMs.1 r (List.mem_append.mpr (.inr List.mem_cons_self))
        have hT := hO.1
        walk_at "go"
        obtain ⟨dx', fs, h1, _, _, _, h3, _⟩ := hO.2.1.ins
        refine ⟨r.m, clsA a (kindM r.st), sp_M_let K a (kindM r.st), dx', fs, rfl, h1, ⟨r.st, rfl, rfl⟩, h3, ?_⟩
        walk_at "go"
        refine ⟨r.m, r.p, r.F, r.l, r.st, g, c, t, k, rfl, rfl, hO.2.1, hO.2.2.1, hO.2.2.2, (hrd r hr).1, by have := (hrd r hr).2.1; omega, (hrd r hr).2.2, fun H3 e3 hM3 hN3 => ?_⟩
        walk_at "go"
        have em : (letK (ms.take i) k g c t ++ r :: ms.drop (i + 1)).map (·.m) = ms.map (·.m) := by
          rw [← hD, List.map_append, letK_m, ← List.map_append, List.take_append_drop]
        have eF : Fs (letK (ms.take i) k g c t ++ r :: ms.drop (i + 1)) = Fs ms := by
          have e1 : ∀ A B : List MRec, Fs (A ++ B) = Fs A ++ Fs B := fun A B => List.flatMap_append
          rw [← hD, e1, letK_Fs, ← e1, List.take_append_drop]
        refine ⟨_, _, rfl, hE.trans (e3.sub fun b hb => mem_Fs.mpr ⟨r, hr, hb⟩), ?_, fun D hD0 hD1 => ?_⟩
        rotate_left
        · have h2 := hNS D hD0 hD1
          have hD2 : H2 D ≠ none := exF_some hE (by rw [← eF]; exact hMs.box) hD0
          exact (hMs.stepNS e3 (hN3 D hD2 (h2 r hr)) (h2.congr em)).congr em.symm
        have := hMs.step e3 hM3
        rw [List.take_add_one, e]
        show MsAt K (clsA a) H3 (letK (ms.take i ++ [r]) k g c t ++ ms.drop (i + 1))
        unfold letK
        rw [List.map_append, List.append_assoc]
        exact this
    · obtain ⟨v5, v6, rfl, hE, hMs, hNS⟩ := hP
      rw [List.length_map, List.take_of_length_le (Nat.le_refl _), List.drop_of_length_le (Nat.le_refl _), List.append_nil] at hMs
      have hb := hK.hms.box
      refine q H1 hE ⟨⟨dx, hE _ _ (fun y => (hK.nF _ y).1 rfl) hk⟩, ?_, hMs, hE _ _ (fun y => (hK.nF _ y).2.1 rfl) hK.hA, hK.hAs.frame hE hb, hE _ _ (fun y => (hK.nF _ y).2.2 rfl) hK.hR, hK.ne, ?_⟩ hNS
      · rw [letK_rV]
        exact hE.lst hb hM
      · rw [letK_Fs]
        exact hK.nF
theorem ok_Keeper__earliest (T : Txt P w K mg a) : FnOk P w K mg base CX0 5 a.f_Keeper__earliest a.d_Keeper__earliest ["self", "group", "cost", "moment"] (sp_Keeper__earliest K a) := by
  refine T.F_Keeper__earliest.ok sc_Keeper__earliest (fun vs H Q E h => ?len) (fun cdv A outer s H vs Q E hr h => ?body)
  case len => obtain ⟨z, ms, mo, as, rs, k, g, c, t, rfl, _⟩ := h; rfl
  case body =>
    obtain ⟨z, ms, mo, as, rs, k, g, c, t, rfl, hK, hrd, hl1, hl8, q⟩ := h
    obtain ⟨dx, hk⟩ := hK.hk
    have hcl := T.cl_Keeper
    have n3 := T.nf_Keeper__meters
    have hM := hK.hM
    refine ⟨_, (pss_cons (ps_setLc (i := 4) (own := [("_", 5), ("meter", 6)]) (g := gTup K 2 (gCons (gName 5) (gCons (gName 6) gNil))) (tt := tYes) rfl sc_Keeper__earliest.nd rfl rfl (sw_true rfl rfl rfl (by decide +kernel)) (pi_listK (K := K) rfl (pe_fldK (K := K) rfl (pv 0) rfl)) (blkOk_by (own := [("_", 5), ("meter", 6)]) (N := ["self", "group", "cost", "moment", "found", "_", "meter"]) (sc := defScope s_Keeper__earliest) (by decide +kernel)) (fun _ _ _ _ _ => (pg_tupK (K := K) rfl rfl (pgs_cons (pg_name (i := 5) sc_Keeper__earliest.nd rfl (Or.inl rfl)) (pgs_cons (pg_name (i := 6) sc_Keeper__earliest.nd rfl (Or.inl rfl)) pgs_nil)))) (fun _ _ _ _ _ => pts_nil) (fun _ _ _ _ _ => (pe_methV (S := S_M_earliest K a) (mheld_M_earliest T) (hr.mono (by decide)) (pv 6) (pa_cons (pv 3) (pa_cons (pv 1) (pa_cons (pv 2) pa_nil))))))
  (pss_cons (ps_if (pt_cmpR (op_inK (K := K) rfl) pe_non (pv 4) rfl)
   (pss_one (ps_ret pe_non))
   pss_nil)
  (pss_one (ps_ret (pe_callB (cr_maxK (K := K) rfl rfl) (by rfl) T.z_max (by decide +kernel) (pa_cons (pv 4) pa_nil)))))), ?_⟩
    try dsimp only [cxOf, Cx.nox]
    walk_at "go"
    refine lc_lst MRec.rV (fun r => oN (earlM r.l g c t r.st)) ⟨0, 0, 0, [], ⟨"", "", [], .flat []⟩, .gap none⟩ (.inl (.inl hM)) (by omega) (fun r hr H2 e1 R hR => ?_) (fun pn H2 hpn hE2 hA2 => ?_)
    · have hO := (hK.hms.1 r hr).mono e1
      have hT := hO.1
      walk_at "go"
      obtain ⟨dx', fs, h1, _, _, h3, _⟩ := hO.2.1.ins
      refine ⟨r.m, clsA a (kindM r.st), sp_M_earliest K a (kindM r.st), dx', fs, rfl, h1, ⟨r.st, rfl, rfl⟩, h3, ?_⟩
      walk_at "go"
      refine ⟨r.m, r.p, r.F, r.l, r.st, g, c, t, rfl, rfl, hO.2.1, hO.2.2.1, hO.2.2.2, (hrd r hr).1, by have := (hrd r hr).2.1; omega, fun H3 e3 => ?_⟩
      exact hR H3 e3
    · have eA : (ms.map fun r => oN (earlM r.l g c t r.st)) = (earlK ms g c t).map oN := by unfold earlK; rw [List.map_map]; rfl
      rw [eA] at hA2
      have hes : earlK ms g c t ≠ [] := fun y => by
        have := congrArg List.length y
        unfold earlK at this
        rw [List.length_map] at this
        have h0 : ms.length = 0 := this
        omega
      generalize earlK ms g c t = es at *
      walk_at "go"
      refine g_inNoneO (.inl (.inl hA2)) ?_
      walk_at "go"
      refine w_dec (fun hn => ?_) (fun hn => ?_)
      · walk_at "go"
        exact q none _ hE2 (.inl ⟨hn, rfl⟩)
      · walk_at "go"
        refine g_max (by rw [← map_oN hn]; exact .inl (.inl hA2)) (fun y => hes (List.map_eq_nil_iff.mp y)) ?_
        exact q (some _) _ hE2 (best_max hn hes)
theorem ok_Keeper_knows (T : Txt P w K mg a) : FnOk P w K mg base CX0 1 a.f_Keeper_knows a.d_Keeper_knows ["self", "key"] (sp_Keeper_knows K a) := by
  refine T.F_Keeper_knows.ok sc_Keeper_knows (fun vs H Q E h => ?len) (fun cdv A outer s H vs Q E hr h => ?body)
  case len => obtain ⟨z, ms, mo, as, rs, k, rfl, _⟩ := h; rfl
  case body =>
    obtain ⟨z, ms, mo, as, rs, k, rfl, hK, q⟩ := h
    obtain ⟨dx, hk⟩ := hK.hk
    have hcl := T.cl_Keeper
    have n4 := T.nf_Keeper__asked
    have hA := hK.hA
    refine ⟨_, (pss_one (ps_ret (pe_cmp (pc_din (hu_of hr) (pv 1) (pe_fldK (K := K) rfl (pv 0) rfl))))), ?_⟩
    try dsimp only [cxOf, Cx.nox]
    walk_at "go"
    show Q (.bl (valV (askK as) (Sum.inr k)).isSome) H
    have e : (valV (askK as) (Sum.inr k)).isSome = decide (k ∈ as.map fun x => x.2.k) := valG_is
    rw [e]
    exact q
theorem ok_Keeper_ask (T : Txt P w K mg a) : FnOk P w K mg base CX0 6 a.f_Keeper_ask a.d_Keeper_ask ["self", "request", "moment"] (sp_Keeper_ask K a) := by
  refine T.F_Keeper_ask.ok sc_Keeper_ask (fun vs H Q E h => ?len) (fun cdv A outer s H vs Q E hr h => ?body)
  case len => obtain ⟨z, ms, mo, as, rs, pr, k, g, c, t, rfl, _⟩ := h; rfl
  case body =>
    obtain ⟨z, ms, mo, as, rs, pr, k, g, c, t, rfl, hK, hP, hk, hg, hc0, hc1, ht0, ht1, hmo, hnk, hl9, hrd, hl1, hl8, q⟩ := h
    have hcl := T.cl_Keeper
    have n2 := T.nf_Keeper_moment
    have n3 := T.nf_Keeper__meters
    have n4 := T.nf_Keeper__asked
    refine ⟨_, (pss_cons (ps_asg (pv 1) (pg_tupK (K := K) rfl rfl (pgs_cons (pg_name (i := 3) sc_Keeper_ask.nd rfl (Or.inl rfl)) (pgs_cons (pg_name (i := 4) sc_Keeper_ask.nd rfl (Or.inr rfl)) (pgs_cons (pg_name (i := 5) sc_Keeper_ask.nd rfl (Or.inr rfl)) pgs_nil)))))
  (pss_cons (ps_expr (pe_call (ok_check_request T) (hr.mono (by decide)) (by rfl) T.g_check_request T.F_check_request.kp T.b_check_request .nil pass0 (pa_cons (pv 3) (pa_cons (pv 4) (pa_cons (pv 5) pa_nil)))))
  (pss_cons (ps_expr (pe_call (ok_check_moment T) (hr.mono (by decide)) (by rfl) T.g_check_moment T.F_check_moment.kp T.b_check_moment .nil pass0 (pa_cons (pv 2) pa_nil)))
  (pss_cons (ps_if (pt_cmp (pc_din (hu_of hr) (pv 3) (pe_fldK (K := K) rfl (pv 0) rfl)))
   (pss_one ps_never)
   pss_nil)
  (pss_cons (ps_expr (pe_meth (pv 0) T.cl_Keeper T.me_Keeper__check_next (ok_Keeper__check_next T) (hr.mono (by decide)) T.b_Keeper__check_next .nil pass0 (pa_cons (pv 2) pa_nil)))
  (pss_cons (ps_if (pt_cmpR op_ge (pe_callB call_lenDN (by rfl) T.z_len (by decide +kernel) (pa_cons (pe_fldK (K := K) rfl (pv 0) rfl) pa_nil)) (pe_globE T.c_MOST_KEYS (by rfl)) (nomark _))
   (pss_one ps_never)
   pss_nil)
  (pss_cons (ps_set (i := 6) sc_Keeper_ask.nd rfl (Or.inl rfl) (pe_callTy (call_tupK (K := K) rfl) (by rfl) T.z_tuple (by decide +kernel) (pa_cons (pe_lc (own := [("name", 8), ("meter", 9)]) (g := gTup K 2 (gCons (gName 8) (gCons (gName 9) gNil))) rfl sc_Keeper_ask.nd (pi_listK (K := K) rfl (pe_fldK (K := K) rfl (pv 0) rfl)) (blkOk_by (own := [("name", 8), ("meter", 9)]) (N := ["self", "request", "moment", "key", "group", "cost", "lacking", "earliest", "name", "meter"]) (sc := defScope s_Keeper_ask) (by decide +kernel)) (fun _ _ _ _ _ => (pg_tupK (K := K) rfl rfl (pgs_cons (pg_name (i := 8) sc_Keeper_ask.nd rfl (Or.inl rfl)) (pgs_cons (pg_name (i := 9) sc_Keeper_ask.nd rfl (Or.inl rfl)) pgs_nil)))) (fun _ _ _ _ _ => (pts_one (pt_not (pt_val (pe_methV (S := S_M_room K a) (mheld_M_room T) (hr.mono (by decide)) (pv 9) (pa_cons (pv 2) (pa_cons (pv 4) (pa_cons (pv 5) pa_nil)))))))) (fun _ _ _ _ _ => (pv 8))) pa_nil)))
  (pss_cons (ps_set (i := 7) sc_Keeper_ask.nd rfl (Or.inl rfl) (pe_meth (pv 0) T.cl_Keeper T.me_Keeper__earliest (ok_Keeper__earliest T) (hr.mono (by decide)) T.b_Keeper__earliest .nil pass0 (pa_cons (pv 4) (pa_cons (pv 5) (pa_cons (pv 2) pa_nil)))))
  (pss_cons (ps_if (pt_cmpR op_eq (pe_callB (call_lenK (K := K) rfl) (by rfl) T.z_len (by decide +kernel) (pa_cons (pv 6) pa_nil)) pe_int (nomark _))
   (pss_one (ps_expr (pe_meth (pv 0) T.cl_Keeper T.me_Keeper__let (ok_Keeper__let T) (hr.mono (by decide)) T.b_Keeper__let .nil pass0 (pa_cons (pv 3) (pa_cons (pv 4) (pa_cons (pv 5) (pa_cons (pv 2) pa_nil)))))))
   pss_nil)
  (pss_cons (ps_dput (hu_of hr) (pe_fldK (K := K) rfl (pv 0) rfl) (pv 3) (pe_tup (pa_cons (pv 4) (pa_cons (pv 5) (pa_cons (pv 2) (pa_cons (pv 6) (pa_cons (pv 7) pa_nil)))))) rfl)
  (pss_cons (ps_fldK (K := K) rfl (pv 0) (pv 2) rfl)
  (pss_one (ps_ret (pe_make T.k_Answer (ok_Answer_init T) (hr.mono (by decide)) (by rfl) T.g_Answer T.b_Answer_init .nil pass0 (pa_cons (pv 3) (pa_cons (pv 2) (pa_cons (pv 6) (pa_cons (pv 7) pa_nil)))))))))))))))))), ?_⟩
    try dsimp only [cxOf, Cx.nox]
    walk_at "go"
    refine ⟨k, g, c, rfl, hk, hg, hc0, hc1, fun H1 hE1 => ?_⟩
    have hK1 := hK.mono hE1
    obtain ⟨dx, hkp⟩ := hK1.hk
    have hM := hK1.hM
    have hA := hK1.hA
    walk_at "go"
    refine ⟨t, rfl, ht0, ht1, ?_⟩
    walk_at "go"
    have eV : (valV (askK as) (Sum.inr k)).isSome = decide (k ∈ as.map fun x => x.2.k) := valG_is
    rw [eV]
    refine w_dec (fun y => absurd y hnk) (fun _ => ?_)
    walk_at "go"
    refine ⟨z, ms, mo, as, rs, t, rfl, hK1, hmo, ?_⟩
    walk_at "go"
    rw [askK_len]
    walk_at "go"
    refine w_dec (fun y => absurd y (by omega)) (fun _ => ?_)
    walk_at "go"
    refine lc_filt MRec.rV (fun r => !roomM r.l g c t r.st) (fun r => V.str r.l.nm) (.inl (.inl hM)) (by omega) (fun r hr H2 e1 R N hR hN => ?_) (fun pn H2 hpn hE2 hA2 => ?_)
    · have hO := (hK1.hms.1 r hr).mono e1
      have hT := hO.1
      walk_at "go"
      obtain ⟨dx', fs, h1, _, h3, _⟩ := hO.2.1.ins
      refine ⟨r.m, clsA a (kindM r.st), sp_M_room K a (kindM r.st), dx', fs, rfl, h1, ⟨r.st, rfl, rfl⟩, h3, ?_⟩
      walk_at "go"
      refine ⟨r.m, r.p, r.F, r.l, r.st, g, c, t, rfl, rfl, hO.2.1, hO.2.2.1, hO.2.2.2, (hrd r hr).1, by have := (hrd r hr).2.1; omega, fun H3 e3 => ?_⟩
      refine ⟨_, rfl, w_ite (fun hb => ?_) (fun hb => ?_)⟩
      · walk_at "go"
        exact hR hb H3 e3
      · exact hN hb H3 e3
    have hA2 : H2 pn = some (.lst ((lackK ms g c t).map V.str)) := by rw [hA2]; unfold lackK; rw [List.map_map]; rfl
    have hK2 := hK1.mono hE2
    walk_at "go"
    rename_i pz hpz
    have hT3 : SqT K (upd H2 pz (.tup ((lackK ms g c t).map V.str))) pz ((lackK ms g c t).map V.str) := .inl (.inl upd_same)
    have hE3 := Evl.Ex.new (o := .tup ((lackK ms g c t).map V.str)) hpz
    generalize upd H2 pz (.tup ((lackK ms g c t).map V.str)) = H3 at *
    have hK3 := hK2.mono hE3
    walk_at "go"
    refine ⟨z, ms, mo, as, rs, k, g, c, t, rfl, hK3, hrd, hl1, hl8, fun E H4 hE4 hB => ?_⟩
    have hK4 := hK3.mono hE4
    have hT4 := ex_sqT hE4 hT3
    walk_at "go"
    rw [List.length_map]
    have hFs : Fs (if lackK ms g c t = [] then letK ms k g c t else ms) = Fs ms := by
      split
      · exact letK_Fs
      · rfl
    refine w_thnB (fun σ' H' => σ' = [some (.ref z.kp), some (.ref pr), some (.int t), some (.str k), some (.str g), some (.int c), some (.ref pz), some (oN E), none, none] ∧ ExF (Fs ms) H4 H' ∧ KprA K a H' z (if lackK ms g c t = [] then letK ms k g c t else ms) mo as rs ∧ ∀ D, H4 D ≠ none → NSs H4 ms D → NSs H' ms D) (fun hb D' hD' => ?_) (fun hb => ?_) (fun σ' H5 hW => ?_)
    · have h0 : lackK ms g c t = [] := List.eq_nil_of_length_eq_zero (Int.ofNat_inj.mp (of_decide_eq_true hb))
      walk_at "go"
      refine ⟨z, ms, mo, as, rs, k, g, c, t, rfl, hK4, hrd, hl8, fun H5 hE5 hK5 hN5 => ?_⟩
      walk_at "go"
      exact hD' _ _ ⟨rfl, hE5, by rw [if_pos h0]; exact hK5, hN5⟩
    · have h0 : lackK ms g c t ≠ [] := fun y => by rw [y] at hb; exact absurd hb (by decide)
      exact ⟨rfl, ExF.of (Evl.Ex.refl _), by rw [if_neg h0]; exact hK4, fun _ _ h => h⟩
    obtain ⟨rfl, hE5, hK5, hN5⟩ := hW
    have hN05 : ∀ D, H D ≠ none → NSs H ms D → NSs H5 ms D := fun D hD hn => hN5 D (ex_some (hE1.trans (hE2.trans (hE3.trans hE4))) hD) (hn.mono hK.hms (hE1.trans (hE2.trans (hE3.trans hE4))))
    have hms' : (if lackK ms g c t = [] then letK ms k g c t else ms).map (·.m) = ms.map (·.m) := by
      split
      · exact letK_m
      · rfl
    clear hN5
    have hT5 := hE5.sqT hK4.hms.box hT4
    generalize (if lackK ms g c t = [] then letK ms k g c t else ms) = ms' at *
    have hE05 : ExF (FK z ms) H H5 := (ExF.of (hE1.trans (hE2.trans (hE3.trans hE4)))).trans (hE5.sub fun b hb => List.mem_cons_of_mem _ (List.mem_cons_of_mem _ (List.mem_cons_of_mem _ hb)))
    clear hE5 hE4 hE3 hE2 hE1 hK4 hK3 hK2 hK1 hT4 hT3 hK hkp hM hA
    obtain ⟨dx5, hkp⟩ := hK5.hk
    have hA := hK5.hA
    have hln : (askK as).length < sizeLine := by rw [askK_len, sizeLine_eq]; omega
    walk_at "go"
    rename_i pd hpd
    have hpA : z.pA ≠ pd := fun y => by rw [← y, hA] at hpd; cases hpd
    have hpk : z.kp ≠ pd := fun y => by rw [← y, hkp] at hpd; cases hpd
    have hkA : z.kp ≠ z.pA := fun y => by rw [y, hA] at hkp; cases hkp
    have ePut : putK (askK as) (Sum.inr k) (V.ref pd) = askK (as ++ [(pd, ⟨k, g, c, t, lackK ms g c t, E⟩)]) := putG (key := fun x : Addr × ARec => x.2.k) (val := fun x => V.ref x.1) (e := (pd, ⟨k, g, c, t, lackK ms g c t, E⟩)) hnk
    rw [ePut]
    refine g_stF1 (by rw [upd_ne hkA, upd_ne hpk]; exact hkp) hcl n2 (by show 5 < 1000; decide) ?_
    rw [flK_mo]
    have hm6 : (upd (upd (upd H5 pd (.tup [.str g, .int c, .int t, .ref pz, oN E])) z.pA (.dK (askK (as ++ [(pd, ⟨k, g, c, t, lackK ms g c t, E⟩)])))) z.kp (.ins a.c_Keeper dx5 (flK z.b (some t) z.pM z.pA z.pR))) z.kp = some (.ins a.c_Keeper dx5 (flK z.b (some t) z.pM z.pA z.pR)) := upd_same
    have hA6 : (upd (upd (upd H5 pd (.tup [.str g, .int c, .int t, .ref pz, oN E])) z.pA (.dK (askK (as ++ [(pd, ⟨k, g, c, t, lackK ms g c t, E⟩)])))) z.kp (.ins a.c_Keeper dx5 (flK z.b (some t) z.pM z.pA z.pR))) z.pA = some (.dK (askK (as ++ [(pd, ⟨k, g, c, t, lackK ms g c t, E⟩)]))) := by rw [upd_ne hkA.symm, upd_same]
    have hd6 : (upd (upd (upd H5 pd (.tup [.str g, .int c, .int t, .ref pz, oN E])) z.pA (.dK (askK (as ++ [(pd, ⟨k, g, c, t, lackK ms g c t, E⟩)])))) z.kp (.ins a.c_Keeper dx5 (flK z.b (some t) z.pM z.pA z.pR))) pd = some (.tup [.str g, .int c, .int t, .ref pz, oN E]) := by rw [upd_ne hpk.symm, upd_ne hpA.symm, upd_same]
    have e56 : ExF [z.kp, z.pA] H5 (upd (upd (upd H5 pd (.tup [.str g, .int c, .int t, .ref pz, oN E])) z.pA (.dK (askK (as ++ [(pd, ⟨k, g, c, t, lackK ms g c t, E⟩)])))) z.kp (.ins a.c_Keeper dx5 (flK z.b (some t) z.pM z.pA z.pR))) := fun b o hb h => by
      rw [upd_ne (fun y => hb (by rw [y]; exact List.mem_cons_self)), upd_ne (fun y => hb (by rw [y]; exact List.mem_cons_of_mem _ List.mem_cons_self))]
      exact Evl.Ex.new hpd _ _ h
    generalize (upd (upd (upd H5 pd (.tup [.str g, .int c, .int t, .ref pz, oN E])) z.pA (.dK (askK (as ++ [(pd, ⟨k, g, c, t, lackK ms g c t, E⟩)])))) z.kp (.ins a.c_Keeper dx5 (flK z.b (some t) z.pM z.pA z.pR))) = H6 at *
    have hbx : ∀ b ∈ [z.kp, z.pA], Box H5 b := fun b hb => by
      rcases List.mem_cons.mp hb with rfl | hb
      · exact .inl ⟨_, _, _, hkp⟩
      · rw [List.mem_singleton.mp hb]; exact .inr ⟨_, hA⟩
    have hT6 := e56.sqT hbx hT5
    have hN06 : ∀ D, H D ≠ none → NSs H ms D → NSs H6 ms D := fun D hD hn => (((hN05 D hD hn).congr hms').frame hK5.hms e56 (fun b hb y => by
      rcases List.mem_cons.mp y with y | y
      · exact (hK5.nF b hb).1 y
      · exact (hK5.nF b hb).2.1 (List.mem_singleton.mp y))).congr hms'.symm
    have hK6 : KprA K a H6 z ms' (some t) (as ++ [(pd, ⟨k, g, c, t, lackK ms g c t, E⟩)]) rs := by
      refine ⟨⟨dx5, hm6⟩, e56.lst hbx hK5.hM, hK5.hms.frame e56 hbx (fun b hb y => ?_), hA6, fun x hx => ?_, e56 _ _ (fun y => ?_) hK5.hR, hK5.ne, hK5.nF⟩
      · rcases List.mem_cons.mp y with y | y
        · exact (hK5.nF b hb).1 y
        · exact (hK5.nF b hb).2.1 (List.mem_singleton.mp y)
      · rcases List.mem_append.mp hx with hx | hx
        · exact hK5.hAs.frame e56 hbx x hx
        · rw [List.mem_singleton.mp hx]
          exact ⟨pz, .inl (.inl hd6), hT6⟩
      · rcases List.mem_cons.mp y with y | y
        · rw [← y, hK5.hR] at hkp; cases hkp
        · exact hK5.ne (List.mem_singleton.mp y).symm
    have e06 : ExF (FK z ms) H H6 := hE05.trans (e56.sub fun b hb => by
      rcases List.mem_cons.mp hb with rfl | hb
      · exact List.mem_cons_self
      · rw [List.mem_singleton.mp hb]; exact List.mem_cons_of_mem _ List.mem_cons_self)
    clear e56 hbx hT5 hE05 hK5 hm6 hA6 hd6 hkp hA hln ePut hpd
    walk_at "go"
    intro m dxm hm hdx hne
    have hEm := ex_made (C := a.c_Answer) hm hdx hne
    have hm0 : upd (upd H6 dxm (.own m)) m (.ins a.c_Answer dxm []) m = some (.ins a.c_Answer dxm []) := upd_same
    generalize upd (upd H6 dxm (.own m)) m (.ins a.c_Answer dxm []) = Hm at *
    refine ⟨m, dxm, pz, k, t, lackK ms g c t, E, rfl, hm0, ex_sqT hEm hT6, fun H8 eP hAns => ⟨rfl, ?_⟩⟩
    have e68 := eP.toEx hEm hm
    exact q E m pd H8 (e06.trans (ExF.of e68)) hB hAns (hK6.mono e68) fun D hD hn => (((hN06 D hD hn).congr hms').mono hK6.hms e68).congr hms'.symm
theorem ok_Keeper__check_known (T : Txt P w K mg a) : FnOk P w K mg base (L2.CX P w) 1 a.f_Keeper__check_known a.d_Keeper__check_known ["self", "key"] (sp_Keeper__check_known K a) := by
  refine T.F_Keeper__check_known.okX sc_Keeper__check_known (fun vs H Q E h => ?len) (fun cdv A outer s H vs Q E hr h => ?body)
  case len => obtain ⟨z, ms, mo, as, rs, k, rfl, _⟩ := h; rfl
  case body =>
    obtain ⟨z, ms, mo, as, rs, k, rfl, hK, hc⟩ := h
    obtain ⟨dx, hk⟩ := hK.hk
    have hcl := T.cl_Keeper
    have n4 := T.nf_Keeper__asked
    have hA := hK.hA
    have eV : (valV (askK as) (Sum.inr k)).isSome = decide (k ∈ as.map fun x => x.2.k) := valG_is
    refine ⟨_, (pss_one (ps_if (pt_cmp (pc_dnotin (hu_of hr) (pv 1) (pe_fldK (K := K) rfl (pv 0) rfl)))
   (pss_one (ps_raiseE rfl T.e_UnknownKey T.top (room3 hr) (takes_of rfl rfl rfl rfl) (pa_cons (pv 1) pa_nil) (by rfl) (by decide)))
   pss_nil)), ?_⟩
    try dsimp only [cxOf, Cx.nox]
    walk_at "go"
    rw [eV]
    refine w_ndec (fun hn => ?_) (fun hn => ?_)
    · walk_at "go"
      rename_i d hd
      rcases hc with ⟨h1, _⟩ | ⟨_, qE⟩
      · exact absurd h1 hn
      · exact qE d _ (Evl.Ex.new hd) hd upd_same
    · rcases hc with ⟨_, qQ⟩ | ⟨h1, _⟩
      · exact qQ
      · exact absurd hn h1
theorem ok_Keeper_answer_of (T : Txt P w K mg a) : FnOk P w K mg base (L2.CX P w) 3 a.f_Keeper_answer_of a.d_Keeper_answer_of ["self", "key"] (sp_Keeper_answer_of K a) := by
  refine T.F_Keeper_answer_of.okX sc_Keeper_answer_of (fun vs H Q E h => ?len) (fun cdv A outer s H vs Q E hr h => ?body)
  case len => obtain ⟨z, ms, mo, as, rs, k, rfl, _⟩ := h; rfl
  case body =>
    obtain ⟨z, ms, mo, as, rs, k, rfl, hK, hlk, hc⟩ := h
    obtain ⟨dx, hk⟩ := hK.hk
    have hcl := T.cl_Keeper
    have n4 := T.nf_Keeper__asked
    have hA := hK.hA
    refine ⟨_, (pss_cons (ps_expr (pe_methT (pv 0) T.cl_Keeper T.me_Keeper__check_known (ok_Keeper__check_known T) (hr.mono (by decide)) T.b_Keeper__check_known (fun σ => passAt (takes_of rfl rfl rfl rfl) σ) (pa_cons (pv 1) pa_nil)))
  (pss_cons (ps_asg (pe_dget (hu_of hr) (pe_fldK (K := K) rfl (pv 0) rfl) (pv 1) (fun _ _ => rfl)) (pg_tupK (K := K) rfl rfl (pgs_cons (pg_name (i := 2) sc_Keeper_answer_of.nd rfl (Or.inl rfl)) (pgs_cons (pg_name (i := 2) sc_Keeper_answer_of.nd rfl (Or.inl rfl)) (pgs_cons (pg_name (i := 3) sc_Keeper_answer_of.nd rfl (Or.inl rfl)) (pgs_cons (pg_name (i := 4) sc_Keeper_answer_of.nd rfl (Or.inl rfl)) (pgs_cons (pg_name (i := 5) sc_Keeper_answer_of.nd rfl (Or.inl rfl)) pgs_nil)))))))
  (pss_one (ps_ret (pe_make T.k_Answer (ok_Answer_init T) (hr.mono (by decide)) (by rfl) T.g_Answer T.b_Answer_init .nil pass0 (pa_cons (pv 1) (pa_cons (pv 3) (pa_cons (pv 4) (pa_cons (pv 5) pa_nil))))))))), ?_⟩
    try dsimp only [cxOf, Cx.nox]
    walk_at "go"
    rcases hc with ⟨h1, qQ⟩ | ⟨h1, qE⟩
    · refine ⟨z, ms, mo, as, rs, k, rfl, hK, .inl ⟨h1, ?_⟩⟩
      obtain ⟨x, hx, hxk, hv⟩ := valG_some (key := fun x : Addr × ARec => x.2.k) (val := fun x => V.ref x.1) h1
      obtain ⟨pl, k1, k2⟩ := hK.hAs x hx
      walk_at "go"
      refine g_dgetS hA hv ?_
      walk_at "go"
      intro m dxm hm hdx hne
      have hEm := ex_made (C := a.c_Answer) hm hdx hne
      have hm0 : upd (upd H dxm (.own m)) m (.ins a.c_Answer dxm []) m = some (.ins a.c_Answer dxm []) := upd_same
      generalize upd (upd H dxm (.own m)) m (.ins a.c_Answer dxm []) = Hm at *
      exact ⟨m, dxm, pl, k, x.2.t, x.2.lk, x.2.e, rfl, hm0, ex_sqT hEm k2, fun H8 eP hAns => ⟨rfl, qQ x m H8 (eP.toEx hEm hm) hx hxk hAns⟩⟩
    · exact ⟨z, ms, mo, as, rs, k, rfl, hK, .inr ⟨h1, fun d H1 hE1 hd hxd => qE d H1 hE1 hd hxd⟩⟩
theorem ok__law_looks (T : Txt P w K mg a) : FnOk P w K mg base CX0 1 a.f__law_looks a.d__law_looks ["_law_limit_here", "_law_group"] (sp__law_looks K) := by
  refine T.F__law_looks.ok sc__law_looks (fun vs H Q E h => ?len) (fun cdv A outer s H vs Q E hr h => ?body)
  case len => obtain ⟨p, l, g, rfl, _⟩ := h; rfl
  case body =>
    obtain ⟨p, l, g, rfl, hL, hok, q⟩ := h
    obtain ⟨pg, pn, h1, h2, h3⟩ := hL
    obtain ⟨o1, o2, o3⟩ := hok
    refine ⟨_, (pss_cons (ps_if (pt_cmpR op_eq (pe_ix (ix_tupK (K := K) rfl) (pv 0) pe_int (fun _ _ => rfl)) pe_str (nomark _))
   (pss_one (ps_ret (pe_cmpR (op_inK (K := K) rfl) (pv 1) (pe_lc (own := [("_law_share", 2)]) (g := gName 2) (tt := tYes) rfl sc__law_looks.nd (pi_tupK (K := K) rfl (pe_ix (ix_tupK (K := K) rfl) (pe_ix (ix_tupK (K := K) rfl) (pv 0) pe_int (fun _ _ => rfl)) pe_int (fun _ _ => rfl))) (blkOk_by (own := [("_law_share", 2)]) (N := ["_law_limit_here", "_law_group", "_law_share"]) (sc := defScope s__law_looks) (by decide +kernel)) (fun _ _ _ _ _ => (pg_name (i := 2) sc__law_looks.nd rfl (Or.inl rfl))) (fun _ _ _ _ _ => pts_nil) (fun _ _ _ _ _ => (pe_ix (ix_tupK (K := K) rfl) (pv 2) pe_int (fun _ _ => rfl)))) rfl)))
   pss_nil)
  (pss_one (ps_ret (pe_or (pe_cmpR op_eq (pe_callB (call_lenK (K := K) rfl) (by rfl) T.z_len (by decide +kernel) (pa_cons (pe_ix (ix_tupK (K := K) rfl) (pv 0) pe_int (fun _ _ => rfl)) pa_nil)) pe_int (nomark _)) (pe_one (pe_cmpR (op_inK (K := K) rfl) (pv 1) (pe_ix (ix_tupK (K := K) rfl) (pv 0) pe_int (fun _ _ => rfl)) rfl)))))), ?_⟩
    try dsimp only [cxOf, Cx.nox]
    walk_at "go"
    unfold seesL at q
    cases hn : l.nu with
    | flat ns =>
      rw [hn] at h3 o3 q
      have hp : l.wd ≠ "pool" := by
        rcases o3.1 with ⟨h1, _⟩ | ⟨h1, _⟩ | ⟨h1, _⟩
        · rcases h1 with h1 | h1 | h1 <;> (rw [h1]; decide +kernel)
        · rw [h1]; decide +kernel
        · rw [h1]; decide +kernel
      refine w_dec (fun h => absurd h hp) (fun _ => ?_)
      walk_at "go"
      have hlm : (((l.gs.map V.str).length : Nat) : Int) = (l.gs.length : Int) := by rw [List.length_map]
      refine w_dec (fun h0 => ?_) (fun h0 => ?_)
      · have q1 := q H (Evl.Ex.refl _)
        dsimp only at q1
        rw [decide_eq_true (show l.gs.length = 0 by omega), Bool.true_or] at q1
        exact q1
      · walk_at "go"
        have q1 := q H (Evl.Ex.refl _)
        dsimp only at q1
        rw [decide_eq_false (show ¬ l.gs.length = 0 by omega), Bool.false_or] at q1
        exact q1
    | pool m sh =>
      rw [hn] at h3 o3 q
      obtain ⟨ps, xs, k1, k2, k3, k4⟩ := h3
      obtain ⟨hwd, _, _, hsl, _⟩ := o3
      refine w_dec (fun _ => ?_) (fun h => absurd hwd h)
      have hxl : xs.length ≤ 8 := by
        have := congrArg List.length k3
        rw [List.length_map] at this
        omega
      walk_at "go"
      refine lc_tupA (fun x : Addr × Shr => V.ref x.1) (fun x => V.str x.2.1) (0, "", 0, 0) k2 (by omega) (fun x hx1 H1 e1 R hR => ?_) (fun pm H1 hpm hE1 hA1 => ?_)
      · have k5 := ex_sqT e1 (k4 x hx1)
        walk_at "go"
        exact hR _ (Evl.Ex.refl _)
      have hL2 : SqL K H1 pm ((sh.map (·.1)).map V.str) := .inl (.inl (by rw [hA1, ← k3, List.map_map, List.map_map]; rfl))
      walk_at "go"
      exact q _ hE1
theorem ok__law_pool_room (T : Txt P w K mg a) : FnOk P w K mg base CX0 1 a.f__law_pool_room a.d__law_pool_room ["_law_numbers_here", "_law_held", "_law_group", "_law_cost_here"] (sp__law_pool_room K) := by
  refine T.F__law_pool_room.ok sc__law_pool_room (fun vs H Q E h => ?len) (fun cdv A outer s H vs Q E hr h => ?body)
  case len => obtain ⟨p, ph, m, sh, hd, g, c, rfl, _⟩ := h; rfl
  case body =>
    obtain ⟨p, ph, m, sh, hd, g, c, rfl, hN, hs8, hH, hQ, hl5, q⟩ := h
    obtain ⟨psh, xs, k1, k2, rfl, k4⟩ := hN
    rw [List.length_map] at hs8
    refine ⟨_, (pss_cons (ps_set (i := 4) sc__law_pool_room.nd rfl (Or.inl rfl) (pe_ix (ix_tupK (K := K) rfl) (pv 0) pe_int (fun _ _ => rfl)))
  (pss_cons (ps_set (i := 5) sc__law_pool_room.nd rfl (Or.inl rfl) pe_int)
  (pss_cons (ps_for PassesOwn.never rfl (pi_tupK (K := K) rfl (pe_ix (ix_tupK (K := K) rfl) (pv 0) pe_int (fun _ _ => rfl))) (pg_tupK (K := K) rfl rfl (pgs_cons (pg_name (i := 6) sc__law_pool_room.nd rfl (Or.inr rfl)) (pgs_cons (pg_name (i := 7) sc__law_pool_room.nd rfl (Or.inl rfl)) (pgs_cons (pg_name (i := 8) sc__law_pool_room.nd rfl (Or.inl rfl)) pgs_nil))))
   (pss_cons (ps_set (i := 9) sc__law_pool_room.nd rfl (Or.inl rfl) (pe_op op_add (pe_callB (cr_sumK (K := K) rfl rfl) (by rfl) T.z_sum (by decide +kernel) (pa_cons (pe_lc (own := [("_law_one", 10)]) (g := gName 10) rfl sc__law_pool_room.nd (pi_listK (K := K) rfl (pv 1)) (blkOk_by (own := [("_law_one", 10)]) (N := ["_law_numbers_here", "_law_held", "_law_group", "_law_cost_here", "_law_common", "_law_borrowed", "_law_name", "_law_own", "_law_ceiling", "_law_use", "_law_one"]) (sc := defScope s__law_pool_room) (by decide +kernel)) (fun _ _ _ _ _ => (pg_name (i := 10) sc__law_pool_room.nd rfl (Or.inl rfl))) (fun _ _ _ _ _ => (pts_one (pt_cmpR op_eq (pe_ix (ix_tupK (K := K) rfl) (pv 10) pe_int (fun _ _ => rfl)) (pv 6) (nomark _)))) (fun _ _ _ _ _ => (pe_ix (ix_tupK (K := K) rfl) (pv 10) pe_int (fun _ _ => rfl)))) pa_nil)) (pe_op op_mul (pv 3) (pe_callTy call_intB (by rfl) T.z_int (by decide +kernel) (pa_cons (pe_cmpR op_eq (pv 6) (pv 2) (nomark _)) pa_nil)))))
  (pss_cons (ps_if (PW.pt (pw_and (pt_cmpR op_eq (pv 6) (pv 2) (nomark _)) (pw_and1 (pt_cmpR op_gt (pv 9) (pv 8) (nomark _)))))
   (pss_one (ps_ret pe_bl))
   pss_nil)
  (pss_cons (ps_set (i := 4) sc__law_pool_room.nd rfl (Or.inl rfl) (pe_op op_sub (pv 4) (pv 7)))
  (pss_one (ps_set (i := 5) sc__law_pool_room.nd rfl (Or.inl rfl) (pe_op op_add (pv 5) (pe_callB (call_max2N rfl) (by rfl) T.z_max (by decide +kernel) (pa_cons pe_int (pa_cons (pe_op op_sub (pv 9) (pv 7)) pa_nil))))))))))
  (pss_one (ps_ret (pe_cmpR op_le (pv 5) (pv 4) (nomark _))))))), ?_⟩
    try dsimp only [cxOf, Cx.nox]
    walk_at "go"
    refine l_it (walk_tup (xs := xs.map fun x => V.ref x.1)) (fun i σ' H' => ∃ (v6 v7 v8 v9 : Option V) (cm bw : Int), σ' = [some (.ref p), some (.ref ph), some (.str g), some (.int c), some (.int cm), some (.int bw), v6, v7, v8, v9, none] ∧ Ex H H' ∧ cm = m - ((xs.take i).map fun x => x.2.2.1).sum ∧ bw = ((xs.take i).map fun x => overR (hd.map (·.2)) g c x.2).sum ∧ ((xs.take i).any fun s => decide (s.2.1 = g) && decide (useR (hd.map (·.2)) g c s.2.1 > s.2.2.2)) = false) ⟨_, _, _, _, _, _, rfl, Evl.Ex.refl _, (by simp), (by simp), rfl⟩ (fun i σ' H' _ hP => by obtain ⟨_, _, _, _, _, _, _, hE, _⟩ := hP; exact ex_sqT hE k2) (fun i x σ' H3 H4 hi hP hY => ?_) (fun σ' H3 hP => ?_)
    · obtain ⟨v6, v7, v8, v9, cm, bw, rfl, hE, hcm, hbw, hany⟩ := hP
      obtain ⟨rfl, hx3⟩ := hY
      rw [List.getElem?_map] at hx3
      cases e : xs[i]? with
      | none => rw [e] at hx3; cases hx3
      | some y =>
        rw [e] at hx3
        have ex : V.ref y.1 = x := Option.some.inj hx3
        subst ex
        have hy := List.mem_of_getElem? e
        have k3 := ex_sqT hE (k4 y hy)
        have hH3 := ex_sqL hE hH
        have hTk : xs.take (i + 1) = xs.take i ++ [y] := by rw [List.take_add_one, e]; rfl
        walk_at "go"
        refine lc_filt qV (fun x => decide (x.2.2.1 = y.2.1)) (fun x => V.int x.2.2.2.1) hH3 (by omega) (fun x hx H5 e5 R5 N5 hR5 hN5 => ?_) (fun pr5 H5 hpr5 hE5 hA5 => ?_)
        · have hx5 := ex_sqT (hE.trans e5) (hQ x hx)
          walk_at "go"
          refine w_dec (fun h6 => ?_) (fun h6 => ?_)
          · walk_at "go"
            exact hR5 (decide_eq_true h6) _ (Evl.Ex.refl _)
          · exact hN5 (decide_eq_false h6) _ (Evl.Ex.refl _)
        have hL5 : SqL K H5 pr5 ((((hd.map (·.2)).filter fun q => decide (q.2.1 = y.2.1)).map fun q => q.2.2.1).map V.int) := .inl (.inl (by
          rw [hA5, List.filter_map]
          simp only [List.map_map]
          rfl))
        have hE05 := hE.trans hE5
        walk_at "go"
        refine g_sum hL5 ?_
        walk_at "go"
        have hU : (((hd.map (·.2)).filter fun q => decide (q.2.1 = y.2.1)).map fun q => q.2.2.1).sum + c * (if decide (y.2.1 = g) = true then 1 else 0) = useR (hd.map (·.2)) g c y.2.1 := by
          unfold useR sum4
          by_cases h : y.2.1 = g
          · rw [if_pos (decide_eq_true h), if_pos h]
          · rw [if_neg (fun z => h (of_decide_eq_true z)), if_neg h]
        rw [hU]
        have hgo : (decide (y.2.1 = g) && decide (useR (hd.map (·.2)) g c y.2.1 > y.2.2.2)) = false → ((xs.take (i + 1)).any fun s => decide (s.2.1 = g) && decide (useR (hd.map (·.2)) g c s.2.1 > s.2.2.2)) = false := fun h => by
          rw [hTk, List.any_append, hany]
          show (false || ((decide (y.2.1 = g) && decide (useR (hd.map (·.2)) g c y.2.1 > y.2.2.2)) || false)) = false
          rw [h]
          rfl
        have hst : (y.2.1 = g ∧ useR (hd.map (·.2)) g c y.2.1 > y.2.2.2) → poolR m (xs.map (·.2)) (hd.map (·.2)) g c = false := fun h => by
          unfold poolR
          rw [List.any_map, show xs.any ((fun s : Shr => decide (s.1 = g) && decide (useR (hd.map (·.2)) g c s.1 > s.2.2)) ∘ fun x : Addr × Shr => x.2) = true from List.any_eq_true.mpr ⟨y, hy, by show (decide (y.2.1 = g) && decide (useR (hd.map (·.2)) g c y.2.1 > y.2.2.2)) = true; rw [decide_eq_true h.1, decide_eq_true h.2]; rfl⟩]
          rfl
        have hcm2 : cm - y.2.2.1 = m - ((xs.take (i + 1)).map fun x => x.2.2.1).sum := by
          rw [hTk, List.map_append, List.sum_append, hcm]
          show _ = m - (_ + (y.2.2.1 + 0))
          omega
        have hbw2 : bw + overR (hd.map (·.2)) g c y.2 = ((xs.take (i + 1)).map fun x => overR (hd.map (·.2)) g c x.2).sum := by
          rw [hTk, List.map_append, List.sum_append, hbw]
          show _ = _ + (overR (hd.map (·.2)) g c y.2 + 0)
          omega
        have hov : overR (hd.map (·.2)) g c y.2 = (if useR (hd.map (·.2)) g c y.2.1 - y.2.2.1 > 0 then useR (hd.map (·.2)) g c y.2.1 - y.2.2.1 else 0) := rfl
        generalize useR (hd.map (·.2)) g c y.2.1 = uu at *
        refine w_dec (fun h1 => ?_) (fun h1 => ?_)
        · walk_at "go"
          refine w_dec (fun h2 => ?_) (fun h2 => ?_)
          · walk_at "go"
            have q1 := q _ hE05
            rw [hst ⟨h1, h2⟩] at q1
            exact q1
          · walk_at "go"
            exact ⟨_, _, _, _, _, _, rfl, hE05, hcm2, by rw [← hbw2, hov], hgo (by rw [decide_eq_false (show ¬ uu > y.2.2.2 from h2), Bool.and_false])⟩
        · walk_at "go"
          exact ⟨_, _, _, _, _, _, rfl, hE05, hcm2, by rw [← hbw2, hov], hgo (by rw [decide_eq_false h1, Bool.false_and])⟩
    · obtain ⟨v6, v7, v8, v9, cm, bw, rfl, hE, hcm, hbw, hany⟩ := hP
      walk_at "go"
      rw [List.length_map, List.take_of_length_le (Nat.le_refl _)] at hcm hbw hany
      have q1 := q _ hE
      have e : poolR m (xs.map (·.2)) (hd.map (·.2)) g c = decide (bw ≤ cm) := by
        unfold poolR
        rw [List.any_map]
        rw [show xs.any ((fun s : Shr => decide (s.1 = g) && decide (useR (hd.map (·.2)) g c s.1 > s.2.2)) ∘ fun x : Addr × Shr => x.2) = false from hany, hcm, hbw, List.map_map, List.map_map]
        rfl
      rw [e] at q1
      exact q1
theorem ok__law_room (T : Txt P w K mg a) : FnOk P w K mg base CX0 2 a.f__law_room a.d__law_room ["_law_limit_here", "_law_lets", "_law_given", "_law_request", "_law_moment"] (sp__law_room K) := by
  refine T.F__law_room.ok sc__law_room (fun vs H Q E h => ?len) (fun cdv A outer s H vs Q E hr h => ?body)
  case len => obtain ⟨p, pq, pg, pr, l, qs, gone, k, g, c, mo, rfl, _⟩ := h; rfl
  case body =>
    obtain ⟨p, pq, pg, pr, l, qs, gone, k, g, c, mo, rfl, hL, hok, hSq, hQ, hql, hSg, hgl, hR, q⟩ := h
    obtain ⟨pgs, pn, l1, l2, l3⟩ := id hL
    refine ⟨_, (pss_cons (ps_asg (pv 3) (pg_tupK (K := K) rfl rfl (pgs_cons (pg_name (i := 5) sc__law_room.nd rfl (Or.inl rfl)) (pgs_cons (pg_name (i := 6) sc__law_room.nd rfl (Or.inl rfl)) (pgs_cons (pg_name (i := 7) sc__law_room.nd rfl (Or.inl rfl)) pgs_nil)))))
  (pss_cons (ps_if (pt_not (pt_val (pe_call (ok__law_looks T) (hr.mono (by decide)) (by rfl) T.g__law_looks T.F__law_looks.kp T.b__law_looks .nil pass0 (pa_cons (pv 0) (pa_cons (pv 6) pa_nil)))))
   (pss_one (ps_ret pe_bl))
   pss_nil)
  (pss_cons (ps_setLc (i := 8) (own := [("_law_one", 14)]) (g := gName 14) rfl sc__law_room.nd rfl rfl (sw_true rfl rfl rfl (by decide +kernel)) (pi_listK (K := K) rfl (pv 1)) (blkOk_by (own := [("_law_one", 14)]) (N := ["_law_limit_here", "_law_lets", "_law_given", "_law_request", "_law_moment", "_law_key", "_law_group", "_law_cost_here", "_law_seen", "_law_word", "_law_numbers_here", "_law_since", "_law_spent", "_law_held", "_law_one"]) (sc := defScope s__law_room) (by decide +kernel)) (fun _ _ _ _ _ => (pg_name (i := 14) sc__law_room.nd rfl (Or.inl rfl))) (fun _ _ _ _ _ => (pts_one (pt_val (pe_call (ok__law_looks T) (hr.mono (by decide)) (by rfl) T.g__law_looks T.F__law_looks.kp T.b__law_looks .nil pass0 (pa_cons (pv 0) (pa_cons (pe_ix (ix_tupK (K := K) rfl) (pv 14) pe_int (fun _ _ => rfl)) pa_nil)))))) (fun _ _ _ _ _ => (pv 14)))
  (pss_cons (ps_asg (pe_tup (pa_cons (pe_ix (ix_tupK (K := K) rfl) (pv 0) pe_int (fun _ _ => rfl)) (pa_cons (pe_ix (ix_tupK (K := K) rfl) (pv 0) pe_int (fun _ _ => rfl)) pa_nil))) (pg_tupK (K := K) rfl rfl (pgs_cons (pg_name (i := 9) sc__law_room.nd rfl (Or.inl rfl)) (pgs_cons (pg_name (i := 10) sc__law_room.nd rfl (Or.inr rfl)) pgs_nil))))
  (pss_cons (ps_if (pt_cmpR op_eq (pv 9) pe_str (nomark _))
   (pss_one (ps_ret (pe_callB (cr_allK (K := K) rfl rfl) (by rfl) T.z_all (by decide +kernel) (pa_cons (pe_lc (own := [("_law_one", 14)]) (g := gName 14) (tt := tYes) rfl sc__law_room.nd (pi_listK (K := K) rfl (pv 8)) (blkOk_by (own := [("_law_one", 14)]) (N := ["_law_limit_here", "_law_lets", "_law_given", "_law_request", "_law_moment", "_law_key", "_law_group", "_law_cost_here", "_law_seen", "_law_word", "_law_numbers_here", "_law_since", "_law_spent", "_law_held", "_law_one"]) (sc := defScope s__law_room) (by decide +kernel)) (fun _ _ _ _ _ => (pg_name (i := 14) sc__law_room.nd rfl (Or.inl rfl))) (fun _ _ _ _ _ => pts_nil) (fun _ _ _ _ _ => (pe_cmpR op_ge (pe_op op_sub (pv 4) (pe_ix (ix_tupK (K := K) rfl) (pv 14) pe_int (fun _ _ => rfl))) (pe_ix (ix_tupK (K := K) rfl) (pv 10) pe_int (fun _ _ => rfl)) (nomark _)))) pa_nil))))
   pss_nil)
  (pss_cons (ps_if (pt_cmpR op_eq (pv 9) pe_str (nomark _))
   (pss_one (ps_ret (pe_cmpR op_le (pe_op op_add (pe_callB (cr_sumK (K := K) rfl rfl) (by rfl) T.z_sum (by decide +kernel) (pa_cons (pe_lc (own := [("_law_one", 14)]) (g := gName 14) rfl sc__law_room.nd (pi_listK (K := K) rfl (pv 8)) (blkOk_by (own := [("_law_one", 14)]) (N := ["_law_limit_here", "_law_lets", "_law_given", "_law_request", "_law_moment", "_law_key", "_law_group", "_law_cost_here", "_law_seen", "_law_word", "_law_numbers_here", "_law_since", "_law_spent", "_law_held", "_law_one"]) (sc := defScope s__law_room) (by decide +kernel)) (fun _ _ _ _ _ => (pg_name (i := 14) sc__law_room.nd rfl (Or.inl rfl))) (fun _ _ _ _ _ => (pts_one (pt_cmpR op_gt (pe_ix (ix_tupK (K := K) rfl) (pv 14) pe_int (fun _ _ => rfl)) (pe_op op_sub (pv 4) (pe_ix (ix_tupK (K := K) rfl) (pv 10) pe_int (fun _ _ => rfl))) (nomark _)))) (fun _ _ _ _ _ => (pe_ix (ix_tupK (K := K) rfl) (pv 14) pe_int (fun _ _ => rfl)))) pa_nil)) (pv 7)) (pe_ix (ix_tupK (K := K) rfl) (pv 10) pe_int (fun _ _ => rfl)) (nomark _))))
   pss_nil)
  (pss_cons (ps_if (pt_cmpR op_eq (pv 9) pe_str (nomark _))
   (pss_one (ps_ret (pe_cmpR op_le (pe_op op_add (pe_callB (cr_sumK (K := K) rfl rfl) (by rfl) T.z_sum (by decide +kernel) (pa_cons (pe_lc (own := [("_law_one", 14)]) (g := gName 14) rfl sc__law_room.nd (pi_listK (K := K) rfl (pv 8)) (blkOk_by (own := [("_law_one", 14)]) (N := ["_law_limit_here", "_law_lets", "_law_given", "_law_request", "_law_moment", "_law_key", "_law_group", "_law_cost_here", "_law_seen", "_law_word", "_law_numbers_here", "_law_since", "_law_spent", "_law_held", "_law_one"]) (sc := defScope s__law_room) (by decide +kernel)) (fun _ _ _ _ _ => (pg_name (i := 14) sc__law_room.nd rfl (Or.inl rfl))) (fun _ _ _ _ _ => (pts_one (pt_cmpR op_eq (pe_op op_fdiv (pe_ix (ix_tupK (K := K) rfl) (pv 14) pe_int (fun _ _ => rfl)) (pe_ix (ix_tupK (K := K) rfl) (pv 10) pe_int (fun _ _ => rfl))) (pe_op op_fdiv (pv 4) (pe_ix (ix_tupK (K := K) rfl) (pv 10) pe_int (fun _ _ => rfl))) (nomark _)))) (fun _ _ _ _ _ => (pe_ix (ix_tupK (K := K) rfl) (pv 14) pe_int (fun _ _ => rfl)))) pa_nil)) (pv 7)) (pe_ix (ix_tupK (K := K) rfl) (pv 10) pe_int (fun _ _ => rfl)) (nomark _))))
   pss_nil)
  (pss_cons (ps_if (pt_cmpR op_eq (pv 9) pe_str (nomark _))
   (pss_cons (ps_for PassesOwn.never rfl (pi_listK (K := K) rfl (pe_op op_cat (pe_lc (own := [("_law_one", 14)]) (g := gName 14) (tt := tYes) rfl sc__law_room.nd (pi_listK (K := K) rfl (pv 8)) (blkOk_by (own := [("_law_one", 14)]) (N := ["_law_limit_here", "_law_lets", "_law_given", "_law_request", "_law_moment", "_law_key", "_law_group", "_law_cost_here", "_law_seen", "_law_word", "_law_numbers_here", "_law_since", "_law_spent", "_law_held", "_law_one"]) (sc := defScope s__law_room) (by decide +kernel)) (fun _ _ _ _ _ => (pg_name (i := 14) sc__law_room.nd rfl (Or.inl rfl))) (fun _ _ _ _ _ => pts_nil) (fun _ _ _ _ _ => (pe_ix (ix_tupK (K := K) rfl) (pv 14) pe_int (fun _ _ => rfl)))) (pe_lst (pa_cons (pv 4) pa_nil)))) (pg_name (i := 11) sc__law_room.nd rfl (Or.inr rfl))
   (pss_cons (ps_set (i := 12) sc__law_room.nd rfl (Or.inl rfl) (pe_op op_add (pe_callB (cr_sumK (K := K) rfl rfl) (by rfl) T.z_sum (by decide +kernel) (pa_cons (pe_lc (own := [("_law_one", 14)]) (g := gName 14) rfl sc__law_room.nd (pi_listK (K := K) rfl (pv 8)) (blkOk_by (own := [("_law_one", 14)]) (N := ["_law_limit_here", "_law_lets", "_law_given", "_law_request", "_law_moment", "_law_key", "_law_group", "_law_cost_here", "_law_seen", "_law_word", "_law_numbers_here", "_law_since", "_law_spent", "_law_held", "_law_one"]) (sc := defScope s__law_room) (by decide +kernel)) (fun _ _ _ _ _ => (pg_name (i := 14) sc__law_room.nd rfl (Or.inl rfl))) (fun _ _ _ _ _ => (pts_one (pt_cmpR op_ge (pe_ix (ix_tupK (K := K) rfl) (pv 14) pe_int (fun _ _ => rfl)) (pv 11) (nomark _)))) (fun _ _ _ _ _ => (pe_ix (ix_tupK (K := K) rfl) (pv 14) pe_int (fun _ _ => rfl)))) pa_nil)) (pv 7)))
  (pss_one (ps_if (pt_cmpR op_gt (pe_op op_mul (pe_ix (ix_tupK (K := K) rfl) (pv 10) pe_int (fun _ _ => rfl)) (pv 12)) (pe_op op_sub (pe_op op_add (pe_op op_mul (pe_ix (ix_tupK (K := K) rfl) (pv 10) pe_int (fun _ _ => rfl)) (pe_ix (ix_tupK (K := K) rfl) (pv 10) pe_int (fun _ _ => rfl))) (pv 4)) (pv 11)) (nomark _))
   (pss_one (ps_ret pe_bl))
   pss_nil))))
  (pss_one (ps_ret pe_bl)))
   pss_nil)
  (pss_cons (ps_setLc (i := 13) (own := [("_law_one", 14)]) (g := gName 14) rfl sc__law_room.nd rfl rfl (sw_true rfl rfl rfl (by decide +kernel)) (pi_listK (K := K) rfl (pv 8)) (blkOk_by (own := [("_law_one", 14)]) (N := ["_law_limit_here", "_law_lets", "_law_given", "_law_request", "_law_moment", "_law_key", "_law_group", "_law_cost_here", "_law_seen", "_law_word", "_law_numbers_here", "_law_since", "_law_spent", "_law_held", "_law_one"]) (sc := defScope s__law_room) (by decide +kernel)) (fun _ _ _ _ _ => (pg_name (i := 14) sc__law_room.nd rfl (Or.inl rfl))) (fun _ _ _ _ _ => (pts_one (pt_cmpR (op_ninK (K := K) rfl) (pe_ix (ix_tupK (K := K) rfl) (pv 14) pe_int (fun _ _ => rfl)) (pv 2) rfl))) (fun _ _ _ _ _ => (pv 14)))
  (pss_cons (ps_if (pt_cmpR op_eq (pv 9) pe_str (nomark _))
   (pss_one (ps_ret (pe_cmpR op_le (pe_op op_add (pe_callB (cr_sumK (K := K) rfl rfl) (by rfl) T.z_sum (by decide +kernel) (pa_cons (pe_lc (own := [("_law_one", 14)]) (g := gName 14) (tt := tYes) rfl sc__law_room.nd (pi_listK (K := K) rfl (pv 13)) (blkOk_by (own := [("_law_one", 14)]) (N := ["_law_limit_here", "_law_lets", "_law_given", "_law_request", "_law_moment", "_law_key", "_law_group", "_law_cost_here", "_law_seen", "_law_word", "_law_numbers_here", "_law_since", "_law_spent", "_law_held", "_law_one"]) (sc := defScope s__law_room) (by decide +kernel)) (fun _ _ _ _ _ => (pg_name (i := 14) sc__law_room.nd rfl (Or.inl rfl))) (fun _ _ _ _ _ => pts_nil) (fun _ _ _ _ _ => (pe_ix (ix_tupK (K := K) rfl) (pv 14) pe_int (fun _ _ => rfl)))) pa_nil)) (pv 7)) (pe_ix (ix_tupK (K := K) rfl) (pv 10) pe_int (fun _ _ => rfl)) (nomark _))))
   pss_nil)
  (pss_one (ps_ret (pe_call (ok__law_pool_room T) (hr.mono (by decide)) (by rfl) T.g__law_pool_room T.F__law_pool_room.kp T.b__law_pool_room .nil pass0 (pa_cons (pv 10) (pa_cons (pv 13) (pa_cons (pv 6) (pa_cons (pv 7) pa_nil))))))))))))))))), ?_⟩
    try dsimp only [cxOf, Cx.nox]
    walk_at "go"
    refine ⟨p, l, g, rfl, hL, hok, fun H1 hE1 => ?_⟩
    unfold roomB at q
    walk_at "go"
    refine w_ite (fun h1 => ?_) (fun h1 => ?_)
    · have h1 : seesL l g = false := by simpa using h1
      walk_at "go"
      rw [h1] at q
      exact q _ hE1
    have h1 : seesL l g = true := by simpa using h1
    rw [h1, Bool.not_true, Bool.false_or] at q
    have hL1 := hL.mono hE1
    have hSq1 := ex_sqL hE1 hSq
    walk_at "go"
    refine lc_filt qV (fun x => seesL l x.2.2.1) qV hSq1 (by omega) (fun x hx H2 e2 R N hR2 hN2 => ?_) (fun ps H2 hps hE2 hA2 => ?_)
    · have hx2 := ex_sqT (hE1.trans e2) (hQ x hx)
      walk_at "go"
      refine ⟨p, l, x.2.2.1, rfl, hL1.mono e2, hok, fun H3 hE3 => ?_⟩
      walk_at "go"
      refine w_ite (fun h2 => ?_) (fun h2 => ?_)
      · walk_at "go"
        exact hR2 h2 _ hE3
      · exact hN2 h2 _ hE3
    obtain ⟨sl, hsl⟩ : ∃ sl, sl = qs.filter fun x => seesL l x.2.2.1 := ⟨_, rfl⟩
    rw [← hsl] at hA2
    have hs4 : sl.map (·.2) = seen4 l (qs.map (·.2)) := by
      rw [hsl]
      unfold seen4
      rw [List.filter_map]
      rfl
    have hE02 := hE1.trans hE2
    have hQ2 : QsAt K H2 sl := (hQ.mono hE02).sub fun x hx => by rw [hsl] at hx; exact (List.mem_filter.mp hx).1
    have hsll : sl.length ≤ 500 := by
      rw [hsl]
      exact Nat.le_trans (List.length_filter_le _ _) hql
    have hSs2 : SqL K H2 ps (sl.map qV) := .inl (.inl hA2)
    have l12 := ex_sqT hE02 l1
    have l32 := NuAt.mono l3 hE02
    have hSg2 := ex_sqL hE02 hSg
    clear hSq1 hE1 hL1 hps hE2 hsl l2 l3 l1 hSq hSg hQ hR hL
    walk_at "go"
    rename_i pt hpt
    have hEt := Evl.Ex.new hpt (o := .tup [V.str l.wd, V.ref pn])
    have hE02 := hE02.trans hEt
    have hQ2 := hQ2.mono hEt
    have hSs2 := ex_sqL hEt hSs2
    have l12 := ex_sqT hEt l12
    have l32 := NuAt.mono l32 hEt
    have hSg2 := ex_sqL hEt hSg2
    generalize upd H2 pt (.tup [V.str l.wd, V.ref pn]) = H2 at *
    clear hEt hpt hA2
    refine w_dec (fun hw => ?_) (fun hw1 => ?_)
    · obtain ⟨a, hn⟩ := lm_gap hok hw
      rw [hn] at l32
      have l32 : SqT K H2 pn [.int a] := l32
      walk_at "go"
      refine lc_lst qV (fun x => V.bl (decide (mo - x.2.2.2.2 ≥ a))) (0, "", "", 0, 0) hSs2 (by omega) (fun x hx H3 e3 R hR3 => ?_) (fun p3 H3 hp3 hE3 hA3 => ?_)
      · have hx3 := ex_sqT e3 (hQ2 x hx)
        have l33 := ex_sqT e3 l32
        walk_at "go"
        exact hR3 _ (Evl.Ex.refl _)
      walk_at "go"
      have q1 := q _ (hE02.trans hE3)
      rw [room_gap hn hw, ← hs4] at q1
      unfold gapR at q1
      rw [List.all_map] at q1
      exact q1
    walk_at "go"
    refine w_dec (fun hw => ?_) (fun hw2 => ?_)
    · obtain ⟨a, b, hn, _, _, hb1, hb2⟩ := lm_two hok (.inl hw)
      rw [hn] at l32
      have l32 : SqT K H2 pn [.int a, .int b] := l32
      have hbM : b < 1073741824 := by have e : million = 1000000 := rfl; omega
      walk_at "go"
      refine lc_filt qV (fun x => decide (x.2.2.2.2 > mo - b)) (fun x => V.int x.2.2.2.1) hSs2 (by omega) (fun x hx H3 e3 R N hR3 hN3 => ?_) (fun p3 H3 hp3 hE3 hA3 => ?_)
      · have hx3 := ex_sqT e3 (hQ2 x hx)
        have l33 := ex_sqT e3 l32
        walk_at "go"
        refine w_dec (fun h6 => ?_) (fun h6 => ?_)
        · walk_at "go"
          exact hR3 (decide_eq_true h6) _ (Evl.Ex.refl _)
        · exact hN3 (decide_eq_false h6) _ (Evl.Ex.refl _)
      have hL3 : SqL K H3 p3 ((((sl.map (·.2)).filter fun q => decide (q.2.2.2 > mo - b)).map fun q => q.2.2.1).map V.int) := .inl (.inl (by
        rw [hA3, List.filter_map]
        simp only [List.map_map]
        rfl))
      have l33 := ex_sqT hE3 l32
      walk_at "go"
      refine g_sum hL3 ?_
      walk_at "go"
      have q1 := q _ (hE02.trans hE3)
      rw [room_win hn hw, ← hs4] at q1
      exact q1
    walk_at "go"
    refine w_dec (fun hw => ?_) (fun hw3 => ?_)
    · obtain ⟨a, b, hn, _, _, hb1, hb2⟩ := lm_two hok (.inr (.inl hw))
      rw [hn] at l32
      have l32 : SqT K H2 pn [.int a, .int b] := l32
      have hbM : b < 1073741824 := by have e : million = 1000000 := rfl; omega
      have hb0 : b ≠ 0 := by omega
      walk_at "go"
      refine lc_filt qV (fun x => decide (x.2.2.2.2 / b = mo / b)) (fun x => V.int x.2.2.2.1) hSs2 (by omega) (fun x hx H3 e3 R N hR3 hN3 => ?_) (fun p3 H3 hp3 hE3 hA3 => ?_)
      · have hx3 := ex_sqT e3 (hQ2 x hx)
        have l33 := ex_sqT e3 l32
        walk_at "go"
        refine w_dec (fun h6 => ?_) (fun h6 => ?_)
        · walk_at "go"
          exact hR3 (decide_eq_true h6) _ (Evl.Ex.refl _)
        · exact hN3 (decide_eq_false h6) _ (Evl.Ex.refl _)
      have hL3 : SqL K H3 p3 ((((sl.map (·.2)).filter fun q => decide (q.2.2.2 / b = mo / b)).map fun q => q.2.2.1).map V.int) := .inl (.inl (by
        rw [hA3, List.filter_map]
        simp only [List.map_map]
        rfl))
      have l33 := ex_sqT hE3 l32
      walk_at "go"
      refine g_sum hL3 ?_
      walk_at "go"
      have q1 := q _ (hE02.trans hE3)
      rw [room_span hn hw, ← hs4] at q1
      exact q1
    walk_at "go"
    refine w_dec (fun hw => ?_) (fun hw4 => ?_)
    · obtain ⟨a, b, hn, _, _, hb1, hb2⟩ := lm_two hok (.inr (.inr hw))
      rw [hn] at l32
      have l32 : SqT K H2 pn [.int a, .int b] := l32
      have hbM : b < 1073741824 := by have e : million = 1000000 := rfl; omega
      walk_at "go"
      refine lc_lst qV (fun x => V.int x.2.2.2.2) (0, "", "", 0, 0) hSs2 (by omega) (fun x hx H3 e3 R hR3 => ?_) (fun p3 H3 hp3 hE3 hA3 => ?_)
      · have hx3 := ex_sqT e3 (hQ2 x hx)
        walk_at "go"
        exact hR3 _ (Evl.Ex.refl _)
      walk_at "go"
      rename_i pm hpm pc hpc
      have hEm := (Evl.Ex.new hpm (o := .lst [V.int mo])).trans (Evl.Ex.new hpc (o := .lst (sl.map (fun x => V.int x.2.2.2.2) ++ [V.int mo])))
      obtain ⟨ts, hts⟩ : ∃ ts : List Int, ts = ((sl.map (·.2)).map fun q => q.2.2.2) ++ [mo] := ⟨_, rfl⟩
      have htV : sl.map (fun x => V.int x.2.2.2.2) ++ [V.int mo] = ts.map V.int := by rw [hts, List.map_append, List.map_map, List.map_map]; rfl
      have hA4 : (upd (upd H3 pm (.lst [V.int mo])) pc (.lst (sl.map (fun x => V.int x.2.2.2.2) ++ [V.int mo]))) pc = some (.lst (ts.map V.int)) := by rw [upd_same, htV]
      have hE4 := hE3.trans hEm
      generalize upd (upd H3 pm (.lst [V.int mo])) pc (.lst (sl.map (fun x => V.int x.2.2.2.2) ++ [V.int mo])) = H4 at *
      clear hEm hpm hpc hA3 hp3
      rw [room_buck hn hw, ← hs4] at q
      have hbk : buckR a b (sl.map (·.2)) c mo = ts.all fun s => decide (b * (sum4 ((sl.map (·.2)).filter fun q => decide (q.2.2.2 ≥ s)) + c) ≤ a * b + mo - s) := by rw [hts]; rfl
      have q : ∀ H', Ex H H' → Q (.bl (buckR a b (sl.map (·.2)) c mo)) H' := q
      rw [hbk] at q
      generalize hfs : (fun s => decide (b * (sum4 ((sl.map (·.2)).filter fun q => decide (q.2.2.2 ≥ s)) + c) ≤ a * b + mo - s)) = fs at q
      clear hts htV hbk
      refine l_it (walk_list (xs := ts.map V.int)) (fun i σ' H' => ∃ (v11 v12 : Option V), σ' = [some (.ref p), some (.ref pq), some (.ref pg), some (.ref pr), some (.int mo), some (.str k), some (.str g), some (.int c), some (.ref ps), some (.str l.wd), some (.ref pn), v11, v12, none, none] ∧ Ex H2 H' ∧ H' pc = some (.lst (ts.map V.int)) ∧ (ts.take i).all fs = true) ⟨none, none, rfl, hE4, hA4, rfl⟩ (fun i σ' H' hi hP => ?_) (fun i x σ' H5b H5 hi hP hY => ?_) (fun σ' H5 hP => ?_)
      · obtain ⟨_, _, _, _, h, _⟩ := hP
        exact .inl (.inl h)
      · obtain ⟨v11, v12, rfl, hE5, hA5, hall⟩ := hP
        obtain ⟨rfl, hxi⟩ := hY
        rw [List.getElem?_map] at hxi
        cases hxe : ts[i]? with
        | none => rw [hxe] at hxi; cases hxi
        | some t0 =>
          rw [hxe] at hxi
          have ex : V.int t0 = x := Option.some.inj hxi
          subst ex
          have hSs5 := ex_sqL hE5 hSs2
          walk_at "go"
          refine lc_filt qV (fun x => decide (x.2.2.2.2 ≥ t0)) (fun x => V.int x.2.2.2.1) hSs5 (by omega) (fun x hx H6 e6 R N hR6 hN6 => ?_) (fun p6 H6 hp6 hE6 hA6 => ?_)
          · have hx6 := ex_sqT (hE5.trans e6) (hQ2 x hx)
            walk_at "go"
            refine w_dec (fun h6 => ?_) (fun h6 => ?_)
            · walk_at "go"
              exact hR6 (decide_eq_true h6) _ (Evl.Ex.refl _)
            · exact hN6 (decide_eq_false h6) _ (Evl.Ex.refl _)
          have hE06 := hE5.trans hE6
          have hA56 := hE6 _ _ hA5
          have l36 := ex_sqT hE06 l32
          have hL6 : SqL K H6 p6 ((((sl.map (·.2)).filter fun q => decide (q.2.2.2 ≥ t0)).map fun q => q.2.2.1).map V.int) := .inl (.inl (by
            rw [hA6, List.filter_map]
            simp only [List.map_map]
            rfl))
          walk_at "go"
          refine g_sum hL6 ?_
          walk_at "go"
          have hsp : (((sl.map (·.2)).filter fun q => decide (q.2.2.2 ≥ t0)).map fun q => q.2.2.1).sum = sum4 ((sl.map (·.2)).filter fun q => decide (q.2.2.2 ≥ t0)) := rfl
          rw [hsp]
          have hft : fs t0 = decide (b * (sum4 ((sl.map (·.2)).filter fun q => decide (q.2.2.2 ≥ t0)) + c) ≤ a * b + mo - t0) := by rw [← hfs]
          refine w_dec (fun h7 => ?_) (fun h7 => ?_)
          · walk_at "go"
            have q1 := q _ (hE02.trans hE06)
            rw [show ts.all fs = false from List.all_eq_false.mpr ⟨t0, List.mem_of_getElem? hxe, by rw [hft, decide_eq_false (by omega)]; decide⟩] at q1
            exact q1
          · walk_at "go"
            refine ⟨_, _, rfl, hE06, hA56, ?_⟩
            rw [List.take_add_one, hxe, List.all_append, hall]
            show (true && (fs t0 && true)) = true
            rw [hft, decide_eq_true (by omega)]
            rfl
      · obtain ⟨v11, v12, rfl, hE5, hA5, hall⟩ := hP
        walk_at "go"
        have q1 := q _ (hE02.trans hE5)
        rw [List.length_map, List.take_of_length_le (Nat.le_refl _)] at hall
        rw [hall] at q1
        exact q1
    have hw0 : l.wd ≠ "gap" := hw1
    walk_at "go"
    refine lc_filt qV (fun x => decide (x.2.1 ∉ gone)) qV hSs2 (by omega) (fun x hx H3 e3 R N hR3 hN3 => ?_) (fun p3 H3 hp3 hE3 hA3 => ?_)
    · have hx3 := ex_sqT e3 (hQ2 x hx)
      have hSg3 := ex_sqL e3 hSg2
      walk_at "go"
      refine w_ndec (fun h6 => ?_) (fun h6 => ?_)
      · walk_at "go"
        exact hR3 (decide_eq_true h6) _ (Evl.Ex.refl _)
      · exact hN3 (decide_eq_false (fun z => z h6)) _ (Evl.Ex.refl _)
    obtain ⟨hl, hhl⟩ : ∃ hl, hl = sl.filter fun x => decide (x.2.1 ∉ gone) := ⟨_, rfl⟩
    rw [← hhl] at hA3
    have hh4 : hl.map (·.2) = held4 l (qs.map (·.2)) gone := by
      unfold held4
      rw [hhl, ← hs4, List.filter_map]
      rfl
    have hQ3 : QsAt K H3 hl := (hQ2.mono hE3).sub fun x hx => by rw [hhl] at hx; exact (List.mem_filter.mp hx).1
    have hhll : hl.length ≤ 500 := by
      rw [hhl]
      exact Nat.le_trans (List.length_filter_le _ _) hsll
    have hSh3 : SqL K H3 p3 (hl.map qV) := .inl (.inl hA3)
    have hE03 := hE02.trans hE3
    have l33 := NuAt.mono l32 hE3
    walk_at "go"
    refine w_dec (fun hw => ?_) (fun hw5 => ?_)
    · obtain ⟨a, hn⟩ := lm_held hok hw
      rw [hn] at l33
      have l33 : SqT K H3 pn [.int a] := l33
      walk_at "go"
      refine lc_lst qV (fun x => V.int x.2.2.2.1) (0, "", "", 0, 0) hSh3 (by omega) (fun x hx H4 e4 R hR4 => ?_) (fun p4 H4 hp4 hE4 hA4 => ?_)
      · have hx4 := ex_sqT e4 (hQ3 x hx)
        walk_at "go"
        exact hR4 _ (Evl.Ex.refl _)
      have hL4 : SqL K H4 p4 (((hl.map (·.2)).map fun q => q.2.2.1).map V.int) := .inl (.inl (by rw [hA4, List.map_map, List.map_map]; rfl))
      have l34 := ex_sqT hE4 l33
      walk_at "go"
      refine g_sum hL4 ?_
      walk_at "go"
      have q1 := q _ (hE03.trans hE4)
      rw [room_held hn hw, ← hh4] at q1
      exact q1
    obtain ⟨m, sh, hn, hs8⟩ := lm_else hok hw0 hw2 hw3 hw4 hw5
    rw [hn] at l33
    walk_at "go"
    refine ⟨pn, p3, m, sh, hl, g, c, rfl, l33, hs8, hSh3, hQ3, hhll, fun H4 hE4 => ?_⟩
    have q1 := q _ (hE03.trans hE4)
    rw [room_pool hn, ← hh4] at q1
    exact q1
theorem ok__law_lacking (T : Txt P w K mg a) : FnOk P w K mg base CX0 3 a.f__law_lacking a.d__law_lacking ["_law_limits_here", "_law_lets", "_law_given", "_law_request", "_law_moment"] (sp__law_lacking K) := by
  refine T.F__law_lacking.ok sc__law_lacking (fun vs H Q E h => ?len) (fun cdv A outer s H vs Q E hr h => ?body)
  case len => obtain ⟨pL, pq, pg, pr, ls, qs, gone, k, g, c, mo, rfl, _⟩ := h; rfl
  case body =>
    obtain ⟨pL, pq, pg, pr, ls, qs, gone, k, g, c, mo, rfl, hSL, hLs, hok, hl8, hSq, hQ, hql, hSg, hgl, hR, q⟩ := h
    refine ⟨_, (pss_one (ps_ret (pe_callTy (call_tupK (K := K) rfl) (by rfl) T.z_tuple (by decide +kernel) (pa_cons (pe_callB (cr_sortedDK (K := K) rfl hr.units) (by rfl) T.z_sorted (by decide +kernel) (pa_cons (pe_lc (own := [("_law_limit_here", 5)]) (g := gName 5) rfl sc__law_lacking.nd (pi_listK (K := K) rfl (pv 0)) (blkOk_by (own := [("_law_limit_here", 5)]) (N := ["_law_limits_here", "_law_lets", "_law_given", "_law_request", "_law_moment", "_law_limit_here"]) (sc := defScope s__law_lacking) (by decide +kernel)) (fun _ _ _ _ _ => (pg_name (i := 5) sc__law_lacking.nd rfl (Or.inl rfl))) (fun _ _ _ _ _ => (pts_one (pt_not (pt_val (pe_call (ok__law_room T) (hr.mono (by decide)) (by rfl) T.g__law_room T.F__law_room.kp T.b__law_room .nil pass0 (pa_cons (pv 5) (pa_cons (pv 1) (pa_cons (pv 2) (pa_cons (pv 3) (pa_cons (pv 4) pa_nil)))))))))) (fun _ _ _ _ _ => (pe_ix (ix_tupK (K := K) rfl) (pv 5) pe_int (fun _ _ => rfl)))) pa_nil)) pa_nil)))), ?_⟩
    try dsimp only [cxOf, Cx.nox]
    walk_at "go"
    refine lc_filt lV (fun x => !roomB x.2 (qs.map (·.2)) gone g c mo) (fun x => V.str x.2.nm) hSL (by omega) (fun x hx H1 e1 R N hR1 hN1 => ?_) (fun p1 H1 hp1 hE1 hA1 => ?_)
    · have hx1 := (hLs x hx).mono e1
      obtain ⟨pgs, pn, l1, _, _⟩ := id hx1
      walk_at "go"
      refine ⟨x.1, pq, pg, pr, x.2, qs, gone, k, g, c, mo, rfl, hx1, hok x hx, ex_sqL e1 hSq, hQ.mono e1, hql, ex_sqL e1 hSg, hgl, ex_sqT e1 hR, fun H2 hE2 => ?_⟩
      have l12 := ex_sqT hE2 l1
      walk_at "go"
      refine w_ite (fun h1 => ?_) (fun h1 => ?_)
      · walk_at "go"
        exact hR1 h1 _ hE2
      · exact hN1 h1 _ hE2
    have hL1 : SqL K H1 p1 (((ls.filter fun x => !roomB x.2 (qs.map (·.2)) gone g c mo).map lN).map V.str) := .inl (.inl (by rw [hA1, List.map_map]; rfl))
    walk_at "go"
    refine g_sortStr hL1 fun ps hps => ?_
    have hEs := Evl.Ex.new hps (o := .lst ((sortS ((ls.filter fun x => !roomB x.2 (qs.map (·.2)) gone g c mo).map lN)).map V.str))
    walk_at "go"
    rename_i pt hpt
    exact q pt _ (hE1.trans (hEs.trans (Evl.Ex.new hpt))) (.inl (.inl upd_same))
theorem ok__law_names (T : Txt P w K mg a) : FnOk P w K mg base CX0 1 a.f__law_names a.d__law_names ["_law_number", "_law_other", "_law_many"] (sp__law_names K) := by
  refine T.F__law_names.ok sc__law_names (fun vs H Q E h => ?len) (fun cdv A outer s H vs Q E hr h => ?body)
  case len => obtain ⟨n, o, m, rfl, _⟩ := h; rfl
  case body =>
    obtain ⟨n, o, m, rfl, hn0, hn1, ho0, ho1, hm0, hm8, q⟩ := h
    have hL36 := letn_len
    refine ⟨_, (pss_cons (ps_set (i := 3) sc__law_names.nd rfl (Or.inr rfl) pe_str)
  (pss_cons (ps_set (i := 4) sc__law_names.nd rfl (Or.inl rfl) (pe_op op_mod (pe_callTy call_intI (by rfl) T.z_int (by decide +kernel) (pa_cons (pv 0) pa_nil)) pe_int))
  (pss_cons (ps_set (i := 5) sc__law_names.nd rfl (Or.inl rfl) (pe_op op_mod (pe_callTy call_intI (by rfl) T.z_int (by decide +kernel) (pa_cons (pv 1) pa_nil)) (pe_op op_add (pv 4) pe_int)))
  (pss_cons (ps_set (i := 6) sc__law_names.nd rfl (Or.inl rfl) (pe_bmK (K := K) rfl PySem.F.plainAttrs_str PySem.F.slot_str_join PySem.F.type_str_join (mt_joinK (K := K) rfl) pe_str (pa_cons (pe_lc (own := [("_law_k", 7)]) (g := gName 7) (tt := tYes) rfl sc__law_names.nd (pi_range1 (by rfl) T.z_range (pa_cons (pv 4) pa_nil)) (blkOk_by (own := [("_law_k", 7)]) (N := ["_law_number", "_law_other", "_law_many", "_law_letters", "_law_size", "_law_place", "_law_rest", "_law_k", "_law_names_here", "_law_own"]) (sc := defScope s__law_names) (by decide +kernel)) (fun _ _ _ _ _ => (pg_name (i := 7) sc__law_names.nd rfl (Or.inl rfl))) (fun _ _ _ _ _ => pts_nil) (fun _ _ _ _ _ => (pe_ix ix_str (pv 3) (pe_op op_mod (pe_callTy call_intI (by rfl) T.z_int (by decide +kernel) (pa_cons (pe_op op_add (pe_op op_mul (pv 0) (pe_op op_add (pv 7) pe_int)) (pe_op op_mul (pv 1) (pe_op op_add (pe_op op_mul (pv 7) (pv 7)) pe_int))) pa_nil)) pe_int) (fun _ _ => rfl)))) pa_nil)))
  (pss_cons (ps_set (i := 8) sc__law_names.nd rfl (Or.inl rfl) (pe_lst pa_nil))
  (pss_cons (ps_for PassesOwn.never rfl (pi_range1 (by rfl) T.z_range (pa_cons (pv 2) pa_nil)) (pg_name (i := 7) sc__law_names.nd rfl (Or.inl rfl))
   (pss_cons (ps_set (i := 9) sc__law_names.nd rfl (Or.inl rfl) (pe_ix ix_str (pv 3) (pe_op op_mod (pe_callTy call_intI (by rfl) T.z_int (by decide +kernel) (pa_cons (pe_op op_add (pe_op op_add (pe_op op_mul (pv 1) pe_int) (pv 0)) (pe_op op_mul pe_int (pv 7))) pa_nil)) pe_int) (fun _ _ => rfl)))
  (pss_one (ps_if (pt_cmpR op_eq (pe_op op_mod (pe_callTy call_intI (by rfl) T.z_int (by decide +kernel) (pa_cons (pe_op op_add (pe_op op_fdiv (pv 0) pe_int) (pv 7)) pa_nil)) pe_int) pe_int (nomark _))
   (pss_one (ps_expr (pe_bmK (K := K) rfl PySem.F.plainAttrs_list PySem.F.slot_list_append PySem.F.type_list_append mt_append (pv 8) (pa_cons (pv 9) pa_nil))))
   (pss_one (ps_expr (pe_bmK (K := K) rfl PySem.F.plainAttrs_list PySem.F.slot_list_append PySem.F.type_list_append mt_append (pv 8) (pa_cons (pe_op op_addSN (pe_op op_addSN (pe_slice sl_str (pv 6) po_none (po_some (pv 5))) (pv 9)) (pe_slice sl_str (pv 6) (po_some (pv 5)) po_none)) pa_nil))))))))
  (pss_one (ps_ret (pv 8))))))))), ?_⟩
    try dsimp only [cxOf, Cx.nox]
    walk_at "go"
    have hsz0 : 0 ≤ n % 12 := by omega
    have hs1 : ((n % 12).toNat : Int) = n % 12 := by omega
    refine lc_rng (fun i : Nat => V.str ⟨#[LETN.getD ((n * ((i : Int) + 1) + o * ((i : Int) * (i : Int) + 3)) % 36).toNat 0]⟩) (by omega) (fun i hi H1 e1 R hR => ?_) (fun pr H1 hpr hE1 hA1 => ?_)
    · walk_at "go"
      exact hR _ (Evl.Ex.refl _)
    obtain ⟨R, hR⟩ : ∃ R : List Nat, R = (List.range (n % 12).toNat).map fun i : Nat => LETN.getD ((n * ((i : Int) + 1) + o * ((i : Int) * (i : Int) + 3)) % 36).toNat 0 := ⟨_, rfl⟩
    have hRl : R.length = (n % 12).toNat := by rw [hR, List.length_map, List.length_range]
    have hRin : ∀ c ∈ R, inLet c = true := fun c hc => by
      rw [hR] at hc
      obtain ⟨i, _, rfl⟩ := List.mem_map.mp hc
      exact letn_in _ (by omega)
    have hS1 : SqL K H1 pr (R.map fun c => V.str ⟨#[c]⟩) := .inl (.inl (by rw [hA1, hR, List.map_map]; rfl))
    walk_at "go"
    refine g_joinC hS1 (by omega) ?_
    walk_at "go"
    rename_i pl hpl
    have hp0 := Int.emod_nonneg o (show n % 12 + 1 ≠ 0 by omega)
    have hp1 := Int.emod_lt_of_pos o (show 0 < n % 12 + 1 by omega)
    generalize hpp : o % (n % 12 + 1) = pp at *
    have hplH : H pl = none := by
      cases z : H pl with
      | none => rfl
      | some v => rw [hE1 _ _ z] at hpl; cases hpl
    refine l_it walk_range (fun i σ' H' => ∃ (v7 v9 : Option V), σ' = [some (.int n), some (.int o), some (.int m), some (.str "abcdefghijklmnopqrstuvwxyz0123456789"), some (.int (n % 12)), some (.int pp), some (.str (stxt R)), v7, some (.ref pl), v9] ∧ Ex H H' ∧ H' pl = some (.lst (((List.range i).map (famN n o R pp.toNat)).map V.str))) ⟨none, none, rfl, hE1.trans (Evl.Ex.new hpl), upd_same⟩ (fun i σ' H' hi hP => trivial) (fun i x σ' H2 H3 hi hP hY => ?_) (fun σ' H2 hP => ?_)
    · obtain ⟨v7, v9, rfl, hE2, hA2⟩ := hP
      obtain ⟨rfl, rfl⟩ := hY
      have hi8 : i < 8 := by omega
      have ez : (0 : Int) + (i : Int) = i := Int.zero_add _
      have hcs : (⟨#[("abcdefghijklmnopqrstuvwxyz0123456789" : Str).cps.toList.getD ((o * 5 + n + 7 * (i : Int)) % 36).toNat 0]⟩ : Str) = ⟨#[famC n o i]⟩ := rfl
      have hlr : (((List.range i).map (famN n o R pp.toNat)).map V.str).length = i := by rw [List.length_map, List.length_map, List.length_range]
      walk_at "go"
      rw [ez, hcs]
      refine w_dec (fun h1 => ?_) (fun h1 => ?_)
      · walk_at "go"
        refine ⟨_, _, rfl, fun b2 o2 hb => ?_, ?_⟩
        · rw [upd_ne (fun z => by rw [z, hplH] at hb; cases hb)]
          exact hE2 _ _ hb
        · have e1 : famN n o R pp.toNat i = ⟨#[famC n o i]⟩ := if_pos h1
          rw [upd_same, List.range_succ, List.map_append, List.map_append, List.map_singleton, List.map_singleton, e1]
      · have hc1 := tl_cut_to (stxt R) hp0
        have hc2 := tl_cut_from (stxt R) hp0
        have hl1 : (cutS (stxt R) none (some pp)).length ≤ 12 := by
          rw [len_tl, hc1, List.length_take]
          show min _ R.length ≤ 12
          omega
        have hl2 : (cutS (stxt R) (some pp) none).length ≤ 12 := by
          rw [len_tl, hc2, List.length_drop]
          show R.length - _ ≤ 12
          omega
        have e1 : (cutS (stxt R) none (some pp) ++ ⟨#[famC n o i]⟩ : Str) ++ cutS (stxt R) (some pp) none = famN n o R pp.toNat i := by
          have e2 : famN n o R pp.toNat i = stxt (R.take pp.toNat ++ famC n o i :: R.drop pp.toNat) := if_neg h1
          rw [e2, ← stxt_tl ((cutS (stxt R) none (some pp) ++ ⟨#[famC n o i]⟩ : Str) ++ cutS (stxt R) (some pp) none), tl_append, tl_append, hc1, hc2]
          show stxt (R.take _ ++ [famC n o i] ++ R.drop _) = _
          rw [List.append_assoc]
          rfl
        walk_at "go"
        rw [e1]
        refine ⟨_, _, rfl, fun b2 o2 hb => ?_, ?_⟩
        · rw [upd_ne (fun z => by rw [z, hplH] at hb; cases hb)]
          exact hE2 _ _ hb
        · rw [upd_same, List.range_succ, List.map_append, List.map_append, List.map_singleton, List.map_singleton]
    · obtain ⟨v7, v9, rfl, hE2, hA2⟩ := hP
      walk_at "go"
      exact q pl _ _ hplH hE2 hA2 ⟨nodup_range fun i hi j hj e => famN_inj (by omega) (by omega) e, fun z hz => by
        obtain ⟨k, _, rfl⟩ := List.mem_map.mp hz
        exact famN_name (by omega) hRin⟩ (by rw [List.length_map, List.length_range]; omega)
theorem ok__law_keys (T : Txt P w K mg a) : FnOk P w K mg base CX0 1 a.f__law_keys a.d__law_keys ["_law_number", "_law_other", "_law_many"] (sp__law_keys K) := by
  refine T.F__law_keys.ok sc__law_keys (fun vs H Q E h => ?len) (fun cdv A outer s H vs Q E hr h => ?body)
  case len => obtain ⟨n, o, m, rfl, _⟩ := h; rfl
  case body =>
    obtain ⟨n, o, m, rfl, hn0, hn1, ho0, ho1, hm0, hm8, q⟩ := h
    have hL37 := letk_len
    refine ⟨_, (pss_cons (ps_set (i := 3) sc__law_keys.nd rfl (Or.inr rfl) pe_str)
  (pss_cons (ps_set (i := 4) sc__law_keys.nd rfl (Or.inl rfl) (pe_op op_mod (pe_callTy call_intI (by rfl) T.z_int (by decide +kernel) (pa_cons (pv 0) pa_nil)) pe_int))
  (pss_cons (ps_set (i := 5) sc__law_keys.nd rfl (Or.inl rfl) (pe_op op_mod (pe_callTy call_intI (by rfl) T.z_int (by decide +kernel) (pa_cons (pv 1) pa_nil)) (pe_op op_add (pv 4) pe_int)))
  (pss_cons (ps_set (i := 6) sc__law_keys.nd rfl (Or.inl rfl) (pe_bmK (K := K) rfl PySem.F.plainAttrs_str PySem.F.slot_str_join PySem.F.type_str_join (mt_joinK (K := K) rfl) pe_str (pa_cons (pe_lc (own := [("_law_k", 7)]) (g := gName 7) (tt := tYes) rfl sc__law_keys.nd (pi_range1 (by rfl) T.z_range (pa_cons (pv 4) pa_nil)) (blkOk_by (own := [("_law_k", 7)]) (N := ["_law_number", "_law_other", "_law_many", "_law_letters", "_law_size", "_law_place", "_law_rest", "_law_k", "_law_keys_here", "_law_own"]) (sc := defScope s__law_keys) (by decide +kernel)) (fun _ _ _ _ _ => (pg_name (i := 7) sc__law_keys.nd rfl (Or.inl rfl))) (fun _ _ _ _ _ => pts_nil) (fun _ _ _ _ _ => (pe_ix ix_str (pv 3) (pe_op op_mod (pe_callTy call_intI (by rfl) T.z_int (by decide +kernel) (pa_cons (pe_op op_add (pe_op op_mul (pv 0) (pe_op op_add (pv 7) pe_int)) (pe_op op_mul (pv 1) (pe_op op_add (pe_op op_mul (pv 7) (pv 7)) pe_int))) pa_nil)) pe_int) (fun _ _ => rfl)))) pa_nil)))
  (pss_cons (ps_set (i := 8) sc__law_keys.nd rfl (Or.inl rfl) (pe_lst pa_nil))
  (pss_cons (ps_for PassesOwn.never rfl (pi_range1 (by rfl) T.z_range (pa_cons (pv 2) pa_nil)) (pg_name (i := 7) sc__law_keys.nd rfl (Or.inl rfl))
   (pss_cons (ps_set (i := 9) sc__law_keys.nd rfl (Or.inl rfl) (pe_op op_addSN (pe_ix ix_str (pv 3) (pe_op op_mod (pe_callTy call_intI (by rfl) T.z_int (by decide +kernel) (pa_cons (pe_op op_add (pv 1) (pe_op op_mul pe_int (pv 7))) pa_nil)) pe_int) (fun _ _ => rfl)) (pe_ix ix_str (pv 3) (pe_op op_mod (pe_callTy call_intI (by rfl) T.z_int (by decide +kernel) (pa_cons (pe_op op_add (pv 0) (pe_op op_fdiv (pv 7) pe_int)) pa_nil)) pe_int) (fun _ _ => rfl))))
  (pss_one (ps_expr (pe_bmK (K := K) rfl PySem.F.plainAttrs_list PySem.F.slot_list_append PySem.F.type_list_append mt_append (pv 8) (pa_cons (pe_op op_addSN (pe_op op_addSN (pe_slice sl_str (pv 6) po_none (po_some (pv 5))) (pv 9)) (pe_slice sl_str (pv 6) (po_some (pv 5)) po_none)) pa_nil))))))
  (pss_one (ps_ret (pv 8))))))))), ?_⟩
    try dsimp only [cxOf, Cx.nox]
    walk_at "go"
    have hsz0 : 0 ≤ n % 19 := by omega
    have hs1 : ((n % 19).toNat : Int) = n % 19 := by omega
    refine lc_rng (fun i : Nat => V.str ⟨#[LETK.getD ((n * ((i : Int) + 2) + o * ((i : Int) * (i : Int) + 1)) % 37).toNat 0]⟩) (by omega) (fun i hi H1 e1 R hR => ?_) (fun pr H1 hpr hE1 hA1 => ?_)
    · walk_at "go"
      exact hR _ (Evl.Ex.refl _)
    obtain ⟨R, hR⟩ : ∃ R : List Nat, R = (List.range (n % 19).toNat).map fun i : Nat => LETK.getD ((n * ((i : Int) + 2) + o * ((i : Int) * (i : Int) + 1)) % 37).toNat 0 := ⟨_, rfl⟩
    have hRl : R.length = (n % 19).toNat := by rw [hR, List.length_map, List.length_range]
    have hRin : ∀ c ∈ R, (inLet c || decide (c = 45)) = true := fun c hc => by
      rw [hR] at hc
      obtain ⟨i, _, rfl⟩ := List.mem_map.mp hc
      exact letk_in _ (by omega)
    have hS1 : SqL K H1 pr (R.map fun c => V.str ⟨#[c]⟩) := .inl (.inl (by rw [hA1, hR, List.map_map]; rfl))
    walk_at "go"
    refine g_joinC hS1 (by omega) ?_
    walk_at "go"
    rename_i pl hpl
    have hp0 := Int.emod_nonneg o (show n % 19 + 1 ≠ 0 by omega)
    have hp1 := Int.emod_lt_of_pos o (show 0 < n % 19 + 1 by omega)
    generalize hpp : o % (n % 19 + 1) = pp at *
    have hplH : H pl = none := by
      cases z : H pl with
      | none => rfl
      | some v => rw [hE1 _ _ z] at hpl; cases hpl
    refine l_it walk_range (fun i σ' H' => ∃ (v7 v9 : Option V), σ' = [some (.int n), some (.int o), some (.int m), some (.str "-abcdefghijklmnopqrstuvwxyz0123456789"), some (.int (n % 19)), some (.int pp), some (.str (stxt R)), v7, some (.ref pl), v9] ∧ Ex H H' ∧ H' pl = some (.lst (((List.range i).map (keyK n o R pp.toNat)).map V.str))) ⟨none, none, rfl, hE1.trans (Evl.Ex.new hpl), upd_same⟩ (fun i σ' H' hi hP => trivial) (fun i x σ' H2 H3 hi hP hY => ?_) (fun σ' H2 hP => ?_)
    · obtain ⟨v7, v9, rfl, hE2, hA2⟩ := hP
      obtain ⟨rfl, rfl⟩ := hY
      have hi8 : i < 36 := by omega
      have ez : (0 : Int) + (i : Int) = i := Int.zero_add _
      have hcs : (⟨#[("-abcdefghijklmnopqrstuvwxyz0123456789" : Str).cps.toList.getD ((o + 5 * (i : Int)) % 37).toNat 0]⟩ : Str) = ⟨#[keyC o i]⟩ := rfl
      have hds : (⟨#[("-abcdefghijklmnopqrstuvwxyz0123456789" : Str).cps.toList.getD ((n + (i : Int) / 37) % 37).toNat 0]⟩ : Str) = ⟨#[keyW n i]⟩ := rfl
      have hlr : (((List.range i).map (keyK n o R pp.toNat)).map V.str).length = i := by rw [List.length_map, List.length_map, List.length_range]
      have hc1 := tl_cut_to (stxt R) hp0
      have hc2 := tl_cut_from (stxt R) hp0
      have hl1 : (cutS (stxt R) none (some pp)).length ≤ 19 := by
        rw [len_tl, hc1, List.length_take]
        show min _ R.length ≤ 19
        omega
      have hl2 : (cutS (stxt R) (some pp) none).length ≤ 19 := by
        rw [len_tl, hc2, List.length_drop]
        show R.length - _ ≤ 19
        omega
      have e1 : (cutS (stxt R) none (some pp) ++ (⟨#[keyC o i]⟩ ++ ⟨#[keyW n i]⟩) : Str) ++ cutS (stxt R) (some pp) none = keyK n o R pp.toNat i := by
        rw [← stxt_tl ((cutS (stxt R) none (some pp) ++ (⟨#[keyC o i]⟩ ++ ⟨#[keyW n i]⟩) : Str) ++ cutS (stxt R) (some pp) none), tl_append, tl_append, tl_append, hc1, hc2]
        show stxt (R.take _ ++ ([keyC o i] ++ [keyW n i]) ++ R.drop _) = stxt _
        rw [List.append_assoc]
        rfl
      have hl3 : (cutS (stxt R) none (some pp) ++ ((⟨#[("-abcdefghijklmnopqrstuvwxyz0123456789" : Str).cps.toList.getD ((o + 5 * (i : Int)) % 37).toNat 0]⟩ : Str) ++ ⟨#[("-abcdefghijklmnopqrstuvwxyz0123456789" : Str).cps.toList.getD ((n + (i : Int) / 37) % 37).toNat 0]⟩)).length ≤ 30 := by
        rw [len_app, len_app, len_sing, len_sing]
        omega
      have hl4 : (((⟨#[("-abcdefghijklmnopqrstuvwxyz0123456789" : Str).cps.toList.getD ((o + 5 * (i : Int)) % 37).toNat 0]⟩ : Str) ++ ⟨#[("-abcdefghijklmnopqrstuvwxyz0123456789" : Str).cps.toList.getD ((n + (i : Int) / 37) % 37).toNat 0]⟩)).length ≤ 2 := by
        rw [len_app, len_sing, len_sing]
        omega
      rw [show ((fun i : Nat => V.int (0 + (i : Int))) i) = V.int (i : Nat) from congrArg V.int (Int.zero_add _)]
      walk_at "go"
      rw [hcs, hds, e1]
      refine ⟨_, _, rfl, fun b2 o2 hb => ?_, ?_⟩
      · rw [upd_ne (fun z => by rw [z, hplH] at hb; cases hb)]
        exact hE2 _ _ hb
      · rw [upd_same, List.range_succ, List.map_append, List.map_append, List.map_singleton, List.map_singleton]
    · obtain ⟨v7, v9, rfl, hE2, hA2⟩ := hP
      walk_at "go"
      exact q pl _ _ hplH hE2 hA2 ⟨nodup_range fun i hi j hj e => keyK_inj (by omega) (by omega) e, fun z hz => by
        obtain ⟨k, _, rfl⟩ := List.mem_map.mp hz
        exact keyK_key (by omega) hRin⟩ (by rw [List.length_map, List.length_range]; omega)
theorem ok__law_cost (T : Txt P w K mg a) : FnOk P w K mg base CX0 1 a.f__law_cost a.d__law_cost ["_law_number"] (sp__law_cost K) := by
  refine T.F__law_cost.ok sc__law_cost (fun vs H Q E h => ?len) (fun cdv A outer s H vs Q E hr h => ?body)
  case len => obtain ⟨n, rfl, _⟩ := h; rfl
  case body =>
    obtain ⟨n, rfl, hn0, hn1, q⟩ := h
    refine ⟨_, (pss_cons (ps_if (pt_cmpR op_eq (pe_op op_mod (pe_callTy call_intI (by rfl) T.z_int (by decide +kernel) (pa_cons (pv 0) pa_nil)) pe_int) pe_int (nomark _))
   (pss_one (ps_ret (pe_op op_add pe_int (pe_op op_mod (pe_callTy call_intI (by rfl) T.z_int (by decide +kernel) (pa_cons (pe_op op_mul (pv 0) pe_int) pa_nil)) pe_int))))
   pss_nil)
  (pss_one (ps_ret (pe_op op_add pe_int (pe_op op_mod (pe_callTy call_intI (by rfl) T.z_int (by decide +kernel) (pa_cons (pe_op op_fdiv (pv 0) pe_int) pa_nil)) pe_int))))), ?_⟩
    try dsimp only [cxOf, Cx.nox]
    walk_at "go"
    refine w_dec (fun h1 => ?_) (fun h1 => ?_)
    · walk_at "go"
      exact q _ (by omega) (by omega)
    · walk_at "go"
      exact q _ (by omega) (by omega)
theorem ok__law_step (T : Txt P w K mg a) : FnOk P w K mg base CX0 1 a.f__law_step a.d__law_step ["_law_number"] (sp__law_step K) := by
  refine T.F__law_step.ok sc__law_step (fun vs H Q E h => ?len) (fun cdv A outer s H vs Q E hr h => ?body)
  case len => obtain ⟨n, rfl, _⟩ := h; rfl
  case body =>
    obtain ⟨n, rfl, hn0, hn1, q⟩ := h
    refine ⟨_, (pss_cons (ps_if (pt_cmpR op_eq (pe_op op_mod (pe_callTy call_intI (by rfl) T.z_int (by decide +kernel) (pa_cons (pv 0) pa_nil)) pe_int) pe_int (nomark _))
   (pss_one (ps_ret (pe_op op_mod (pe_callTy call_intI (by rfl) T.z_int (by decide +kernel) (pa_cons (pe_op op_mul (pe_op op_mul (pv 0) (pv 0)) pe_int) pa_nil)) pe_int)))
   pss_nil)
  (pss_one (ps_ret (pe_ix (ix_tupK (K := K) rfl) (pe_tup (pa_cons pe_int (pa_cons pe_int (pa_cons pe_int (pa_cons pe_int (pa_cons pe_int (pa_cons pe_int (pa_cons pe_int (pa_cons pe_int pa_nil))))))))) (pe_op op_mod (pe_callTy call_intI (by rfl) T.z_int (by decide +kernel) (pa_cons (pv 0) pa_nil)) pe_int) (fun _ _ => rfl))))), ?_⟩
    try dsimp only [cxOf, Cx.nox]
    walk_at "go"
    refine w_dec (fun h1 => ?_) (fun h1 => ?_)
    · walk_at "go"
      exact q _ _ (Evl.Ex.refl _) (by omega) (by omega)
    · walk_at "go"
      rename_i p hp
      have hb : ∃ v : Int, atI [V.int 0, V.int 0, V.int 1, V.int 1, V.int 2, V.int 3, V.int 6, V.int 11] (n % 8) = some (.int v) ∧ 0 ≤ v ∧ v ≤ 11 := step_at n
      obtain ⟨v, hv, h0, h11⟩ := hb
      refine g_ixT (by walk_at "sq") hv ?_
      exact q _ _ (Evl.Ex.new hp) h0 (by omega)
theorem ok__law_start (T : Txt P w K mg a) : FnOk P w K mg base CX0 1 a.f__law_start a.d__law_start ["_law_first", "_law_second"] (sp__law_start K) := by
  refine T.F__law_start.ok sc__law_start (fun vs H Q E h => ?len) (fun cdv A outer s H vs Q E hr h => ?body)
  case len => obtain ⟨n, o, rfl, _⟩ := h; rfl
  case body =>
    obtain ⟨n, o, rfl, hn0, hn1, ho0, ho1, q⟩ := h
    refine ⟨_, (pss_cons (ps_set (i := 2) sc__law_start.nd rfl (Or.inl rfl) (pe_op op_mod (pe_callTy call_intI (by rfl) T.z_int (by decide +kernel) (pa_cons (pv 1) pa_nil)) pe_int))
  (pss_cons (ps_if (pt_cmpR op_eq (pv 2) pe_int (nomark _))
   (pss_one (ps_ret (pe_op op_mul (pe_callTy call_intI (by rfl) T.z_int (by decide +kernel) (pa_cons (pv 0) pa_nil)) pe_int)))
   pss_nil)
  (pss_cons (ps_if (pt_cmpR op_eq (pv 2) pe_int (nomark _))
   (pss_one (ps_ret (pe_op op_sub pe_int (pe_op op_mod (pe_callTy call_intI (by rfl) T.z_int (by decide +kernel) (pa_cons (pv 0) pa_nil)) pe_int))))
   pss_nil)
  (pss_one (ps_ret (pe_op op_mod (pe_callTy call_intI (by rfl) T.z_int (by decide +kernel) (pa_cons (pv 0) pa_nil)) pe_int)))))), ?_⟩
    try dsimp only [cxOf, Cx.nox]
    walk_at "go"
    refine w_dec (fun h1 => ?_) (fun h1 => ?_)
    · walk_at "go"
      exact q _ (by omega) (by omega)
    · walk_at "go"
      refine w_dec (fun h2 => ?_) (fun h2 => ?_)
      · walk_at "go"
        exact q _ (by omega) (by omega)
      · walk_at "go"
        exact q _ (by omega) (by omega)
theorem ok__law_after (T : Txt P w K mg a) : FnOk P w K mg base CX0 2 a.f__law_after a.d__law_after ["_law_moment", "_law_number"] (sp__law_after K) := by
  refine T.F__law_after.ok sc__law_after (fun vs H Q E h => ?len) (fun cdv A outer s H vs Q E hr h => ?body)
  case len => obtain ⟨m, n, rfl, _⟩ := h; rfl
  case body =>
    obtain ⟨m, n, rfl, hn0, hn1, hm0, hm1, q⟩ := h
    refine ⟨_, (pss_one (ps_ret (pe_callB (call_min2N rfl) (by rfl) T.z_min (by decide +kernel) (pa_cons pe_int (pa_cons (pe_op op_add (pv 0) (pe_call (ok__law_step T) (hr.mono (by decide)) (by rfl) T.g__law_step T.F__law_step.kp T.b__law_step .nil pass0 (pa_cons (pv 1) pa_nil))) pa_nil))))), ?_⟩
    try dsimp only [cxOf, Cx.nox]
    walk_at "go"
    refine ⟨n, rfl, hn0, hn1, fun c H1 hE1 hc0 hc1 => ?_⟩
    walk_at "go"
    by_cases hc : m + c < 1000000000
    · rw [if_pos hc]
      exact q _ _ hE1 (by omega) (by omega)
    · rw [if_neg hc]
      exact q _ _ hE1 (by omega) (by omega)
theorem ok__law_group_names (T : Txt P w K mg a) : FnOk P w K mg base CX0 2 a.f__law_group_names a.d__law_group_names ["_law_numbers_here"] (sp__law_group_names K) := by
  refine T.F__law_group_names.ok sc__law_group_names (fun vs H Q E h => ?len) (fun cdv A outer s H vs Q E hr h => ?body)
  case len => obtain ⟨l, ns, rfl, _⟩ := h; rfl
  case body =>
    obtain ⟨l, ns, rfl, hS, h9, hl, q⟩ := h
    have a0 := h9.at (Int.toNat 0) (show 0 < ns.length by omega)
    have a1 := h9.at (Int.toNat 1) (show 1 < ns.length by omega)
    refine ⟨_, (pss_one (ps_ret (pe_call (ok__law_names T) (hr.mono (by decide)) (by rfl) T.g__law_names T.F__law_names.kp T.b__law_names .nil pass0 (pa_cons (pe_ix (ix_listK (K := K) rfl) (pv 0) pe_int (fun _ _ => rfl)) (pa_cons (pe_ix (ix_listK (K := K) rfl) (pv 0) pe_int (fun _ _ => rfl)) (pa_cons (pe_ix (ix_tupK (K := K) rfl) (pe_tup (pa_cons pe_int (pa_cons pe_int (pa_cons pe_int pa_nil)))) (pe_op op_add (pe_callTy call_intB (by rfl) T.z_int (by decide +kernel) (pa_cons (pe_cmpR op_eq (pe_op op_mod (pe_callTy call_intI (by rfl) T.z_int (by decide +kernel) (pa_cons (pe_ix (ix_listK (K := K) rfl) (pv 0) pe_int (fun _ _ => rfl)) pa_nil)) pe_int) pe_int (nomark _)) pa_nil)) (pe_callTy call_intB (by rfl) T.z_int (by decide +kernel) (pa_cons (pe_cmpR op_eq (pe_op op_mod (pe_callTy call_intI (by rfl) T.z_int (by decide +kernel) (pa_cons (pe_ix (ix_listK (K := K) rfl) (pv 0) pe_int (fun _ _ => rfl)) pa_nil)) pe_int) pe_int (nomark _)) pa_nil))) (fun _ _ => rfl)) pa_nil)))))), ?_⟩
    try dsimp only [cxOf, Cx.nox]
    walk_at "go"
    rename_i p hp
    have hb : ∃ v : Int, atI [V.int 3, V.int 7, V.int 8] ((if decide (ns.getD (Int.toNat 1) 0 % 6 = 1) = true then 1 else 0) + if decide (ns.getD (Int.toNat 1) 0 % 12 = 7) = true then 1 else 0) = some (.int v) ∧ 3 ≤ v ∧ v ≤ 8 := menu3 _ _
    obtain ⟨v, hv, h3, h8⟩ := hb
    refine g_ixT (by walk_at "sq") hv ?_
    walk_at "go"
    refine ⟨_, _, _, rfl, a0.1, by omega, a1.1, by omega, by omega, h8, fun p2 zs H2 hp2 hE2 hA2 hz hzl => ?_⟩
    have hpH : H p2 = none := by
      cases z : H p2 with
      | none => rfl
      | some o => rw [Evl.Ex.new hp _ _ z] at hp2; cases hp2
    exact q p2 zs H2 hpH ((Evl.Ex.new hp).trans hE2) hA2 hz (by omega) (by omega)
theorem ok__law_shares (T : Txt P w K mg a) : FnOk P w K mg base CX0 1 a.f__law_shares a.d__law_shares ["_law_numbers_here", "_law_at", "_law_groups"] (sp__law_shares K) := by
  refine T.F__law_shares.ok sc__law_shares (fun vs H Q E h => ?len) (fun cdv A outer s H vs Q E hr h => ?body)
  case len => obtain ⟨l, ns, at_, pg, gs, rfl, _⟩ := h; rfl
  case body =>
    obtain ⟨l, ns, at_, pg, gs, rfl, hS, h9, hat0, hat1, hG, hgs, hg3, hg8, q⟩ := h
    have hlg : (gs.map V.str).length = gs.length := List.length_map ..
    refine ⟨_, (pss_cons (ps_set (i := 3) sc__law_shares.nd rfl (Or.inl rfl) (pe_lst pa_nil))
  (pss_cons (ps_for PassesOwn.never rfl (pi_range1 (by rfl) T.z_range (pa_cons (pe_callB (call_lenK (K := K) rfl) (by rfl) T.z_len (by decide +kernel) (pa_cons (pv 2) pa_nil)) pa_nil)) (pg_name (i := 4) sc__law_shares.nd rfl (Or.inl rfl))
   (pss_cons (ps_set (i := 5) sc__law_shares.nd rfl (Or.inl rfl) (pe_op op_mod (pe_callTy call_intI (by rfl) T.z_int (by decide +kernel) (pa_cons (pe_op op_add (pe_ix (ix_listK (K := K) rfl) (pv 0) (pe_op op_add (pv 1) (pe_op op_mod (pe_callTy call_intI (by rfl) T.z_int (by decide +kernel) (pa_cons (pv 4) pa_nil)) pe_int)) (fun _ _ => rfl)) (pe_op op_mul pe_int (pe_op op_fdiv (pv 4) pe_int))) pa_nil)) pe_int))
  (pss_one (ps_expr (pe_bmK (K := K) rfl PySem.F.plainAttrs_list PySem.F.slot_list_append PySem.F.type_list_append mt_append (pv 3) (pa_cons (pe_tup (pa_cons (pe_ix (ix_listK (K := K) rfl) (pv 2) (pv 4) (fun _ _ => rfl)) (pa_cons (pv 5) (pa_cons (pe_op op_add (pv 5) (pe_op op_mod (pe_callTy call_intI (by rfl) T.z_int (by decide +kernel) (pa_cons (pe_op op_add (pe_op op_fdiv (pe_ix (ix_listK (K := K) rfl) (pv 0) (pe_op op_add (pv 1) (pe_op op_mod (pe_callTy call_intI (by rfl) T.z_int (by decide +kernel) (pa_cons (pv 4) pa_nil)) pe_int)) (fun _ _ => rfl)) pe_int) (pe_op op_fdiv (pv 4) pe_int)) pa_nil)) pe_int)) pa_nil)))) pa_nil))))))
  (pss_one (ps_ret (pe_callTy (call_tupK (K := K) rfl) (by rfl) T.z_tuple (by decide +kernel) (pa_cons (pe_callB (cr_sortedDK (K := K) rfl hr.units) (by rfl) T.z_sorted (by decide +kernel) (pa_cons (pe_slice (sl_listK (K := K) rfl) (pv 3) (po_some (pe_op op_mod (pe_callTy call_intI (by rfl) T.z_int (by decide +kernel) (pa_cons (pe_ix (ix_listK (K := K) rfl) (pv 0) (pv 1) (fun _ _ => rfl)) pa_nil)) pe_int)) po_none) pa_nil)) pa_nil)))))), ?_⟩
    try dsimp only [cxOf, Cx.nox]
    walk_at "go"
    rw [hlg]
    rw [show ((gs.length : Nat) : Int).toNat = gs.length by omega]
    rename_i ps hps
    refine l_it walk_range (fun i σ' H' => ∃ (v4 v5 : Option V) (xs : List (Addr × Shr)), σ' = [some (.ref l), some (.int at_), some (.ref pg), some (.ref ps), v4, v5] ∧ Ex H H' ∧ H' ps = some (.lst (xs.map fun x => V.ref x.1)) ∧ (∀ x ∈ xs, SqT K H' x.1 [.str x.2.1, .int x.2.2.1, .int x.2.2.2]) ∧ xs.map (fun x => x.2.1) = gs.take i ∧ ∀ x ∈ xs, 0 ≤ x.2.2.1 ∧ x.2.2.1 ≤ 4 ∧ x.2.2.1 ≤ x.2.2.2 ∧ x.2.2.2 ≤ 11) ⟨none, none, [], rfl, Evl.Ex.new hps, upd_same, (fun x hx => nomatch hx), rfl, (fun x hx => nomatch hx)⟩ (fun i σ' H' hi hP => trivial) (fun i x σ' H2 H3 hi hP hY => ?_) (fun σ' H2 hP => ?_)
    · obtain ⟨v4, v5, xs, rfl, hE2, hA2, hx2, hn2, hb2⟩ := hP
      obtain ⟨rfl, rfl⟩ := hY
      rw [show ((fun i : Nat => V.int (0 + (i : Int))) i) = V.int (i : Nat) from congrArg V.int (Int.zero_add _)]
      have hS2 := ex_sqL hE2 hS
      have hG2 := ex_sqL hE2 hG
      have hxl : xs.length = i := by
        have := congrArg List.length hn2
        rw [List.length_map, List.length_take] at this
        omega
      have hgi : atI (gs.map V.str) (i : Nat) = some (.str gs[i]) := atI_nat (by rw [List.getElem?_map, List.getElem?_eq_getElem hi]; rfl)
      have h90 := h9.at (at_ + (i : Int) % 3).toNat (by omega)
      walk_at "go"
      refine g_ixL hG2 hgi ?_
      walk_at "go"
      rename_i pt hpt
      have hEt := Evl.Ex.new hpt (o := .tup [V.str gs[i], V.int ((ns.getD (at_ + (i : Int) % 3).toNat 0 + 4 * ((i : Int) / 3)) % 5), V.int ((ns.getD (at_ + (i : Int) % 3).toNat 0 + 4 * ((i : Int) / 3)) % 5 + (ns.getD (at_ + (i : Int) % 3).toNat 0 / 5 + (i : Int) / 3) % 8)])
      have hA3 := hEt _ _ hA2
      refine ⟨_, _, xs ++ [(pt, (gs[i], (ns.getD (at_ + (i : Int) % 3).toNat 0 + 4 * ((i : Int) / 3)) % 5, (ns.getD (at_ + (i : Int) % 3).toNat 0 + 4 * ((i : Int) / 3)) % 5 + (ns.getD (at_ + (i : Int) % 3).toNat 0 / 5 + (i : Int) / 3) % 8))], rfl, fun b2 o2 hb => ?_, by rw [upd_same, List.map_append]; rfl, fun x hx => ?_, ?_, fun x hx => ?_⟩
      · rw [upd_ne (fun z => by rw [z, hps] at hb; cases hb)]
        exact hEt _ _ (hE2 _ _ hb)
      · rcases List.mem_append.mp hx with hx | hx
        · exact sqT_lst hA3 (ex_sqT hEt (hx2 x hx))
        · rw [List.mem_singleton.mp hx]
          exact sqT_lst hA3 (.inl (.inl upd_same))
      · rw [List.map_append, hn2, List.take_add_one, List.getElem?_eq_getElem hi]
        rfl
      · rcases List.mem_append.mp hx with hx | hx
        · exact hb2 x hx
        · rw [List.mem_singleton.mp hx]
          show 0 ≤ (_ : Int) % 5 ∧ (_ : Int) % 5 ≤ 4 ∧ (_ : Int) % 5 ≤ _ % 5 + _ % 8 ∧ _ % 5 + _ % 8 ≤ 11
          refine ⟨?_, ?_, ?_, ?_⟩ <;> omega
    · obtain ⟨v4, v5, xs, rfl, hE2, hA2, hx2, hn2, hb2⟩ := hP
      rw [List.take_of_length_le (Nat.le_refl _)] at hn2
      have hS2 := ex_sqL hE2 hS
      have hxl : xs.length = gs.length := by
        have := congrArg List.length hn2
        rw [List.length_map] at this
        exact this
      walk_at "go"
      rename_i pc hpc
      have hk0 : 0 ≤ ns.getD at_.toNat 0 % 2 := by omega
      have hk1 : ns.getD at_.toNat 0 % 2 ≤ 1 := by omega
      generalize ns.getD at_.toNat 0 % 2 = kk at *
      have hcut : cutV (xs.map fun x => V.ref x.1) (some kk) none = (xs.drop kk.toNat).map fun x => V.ref x.1 := by rw [cutV_from _ hk0, List.map_drop]
      have hEc := Evl.Ex.new hpc (o := .lst (cutV (xs.map fun x => V.ref x.1) (some kk) none))
      have hAc : upd H2 pc (.lst (cutV (xs.map fun x => V.ref x.1) (some kk) none)) pc = some (.lst ((xs.drop kk.toNat).map fun x => V.ref x.1)) := by rw [upd_same, hcut]
      generalize upd H2 pc (.lst (cutV (xs.map fun x => V.ref x.1) (some kk) none)) = Hc at *
      have hxd : ∀ x ∈ xs.drop kk.toNat, SqT K Hc x.1 [.str x.2.1, .int x.2.2.1, .int x.2.2.2] := fun x hx => ex_sqT hEc (hx2 x (List.mem_of_mem_drop hx))
      refine g_sortSh (.inl (.inl hAc)) hxd (fun pz hpz => ?_)
      have hEz := Evl.Ex.new hpz (o := .lst ((sortS' (xs.drop kk.toNat)).map fun x => V.ref x.1))
      walk_at "go"
      rename_i pq hpq
      have hEq := Evl.Ex.new hpq (o := .tup ((sortS' (xs.drop kk.toNat)).map fun x => V.ref x.1))
      have hperm := sortS'_perm (xs.drop kk.toNat)
      have hdl : (sortS' (xs.drop kk.toNat)).length = xs.length - kk.toNat := by rw [hperm.length_eq, List.length_drop]
      refine q pq (sortS' (xs.drop kk.toNat)) _ (hE2.trans (hEc.trans (hEz.trans hEq))) (.inl (.inl upd_same)) (fun x hx => ex_sqT (hEz.trans hEq) (hxd x (hperm.mem_iff.mp hx))) ⟨?_, ?_, ?_, fun s hs => ?_⟩
      · rw [List.length_map, hdl]; omega
      · rw [List.length_map, hdl]; omega
      · rw [List.map_map]
        refine sortS'_asc ?_
        rw [List.map_drop, hn2]
        exact hgs.1.sublist (List.drop_sublist _ _)
      · obtain ⟨x, hx, rfl⟩ := List.mem_map.mp hs
        have hx3 := List.mem_of_mem_drop (hperm.mem_iff.mp hx)
        obtain ⟨b1, b2, b3, b4⟩ := hb2 x hx3
        exact ⟨hgs.2 _ (by rw [← hn2]; exact List.mem_map.mpr ⟨x, hx3, rfl⟩), b1, b2, b3, b4⟩
theorem ok__law_limit (T : Txt P w K mg a) : FnOk P w K mg base CX0 2 a.f__law_limit a.d__law_limit ["_law_numbers_here", "_law_at", "_law_name", "_law_groups"] (sp__law_limit K) := by
  refine T.F__law_limit.ok sc__law_limit (fun vs H Q E h => ?len) (fun cdv A outer s H vs Q E hr h => ?body)
  case len => obtain ⟨l, ns, nm, pg, gs, rfl, _⟩ := h; rfl
  case body =>
    obtain ⟨l, ns, nm, pg, gs, rfl, hS, h9, hnl, hnm, hG, hgs, hg3, hg8, q⟩ := h
    have hlg : (gs.map V.str).length = gs.length := List.length_map ..
    have n2 := h9.at (Int.toNat 2) (show 2 < ns.length by omega)
    have n3 := h9.at (Int.toNat 3) (show 3 < ns.length by omega)
    have n4 := h9.at (Int.toNat 4) (show 4 < ns.length by omega)
    have n5 := h9.at (Int.toNat 5) (show 5 < ns.length by omega)
    have n6 := h9.at (Int.toNat 6) (show 6 < ns.length by omega)
    refine ⟨_, (pss_cons (ps_set (i := 4) sc__law_limit.nd rfl (Or.inl rfl) (pe_ix (ix_tupK (K := K) rfl) (pe_tup (pa_cons pe_str (pa_cons pe_str (pa_cons pe_str (pa_cons pe_str (pa_cons pe_str (pa_cons pe_str pa_nil))))))) (pe_op op_mod (pe_callTy call_intI (by rfl) T.z_int (by decide +kernel) (pa_cons (pe_ix (ix_listK (K := K) rfl) (pv 0) (pv 1) (fun _ _ => rfl)) pa_nil)) pe_int) (fun _ _ => rfl)))
  (pss_cons (ps_set (i := 5) sc__law_limit.nd rfl (Or.inl rfl) (pe_op op_mod (pe_callTy call_intI (by rfl) T.z_int (by decide +kernel) (pa_cons (pe_ix (ix_listK (K := K) rfl) (pv 0) (pe_op op_add (pv 1) pe_int) (fun _ _ => rfl)) pa_nil)) pe_int))
  (pss_cons (ps_set (i := 6) sc__law_limit.nd rfl (Or.inl rfl) (pe_op op_add pe_int (pe_op op_mod (pe_callTy call_intI (by rfl) T.z_int (by decide +kernel) (pa_cons (pe_ix (ix_listK (K := K) rfl) (pv 0) (pe_op op_add (pv 1) pe_int) (fun _ _ => rfl)) pa_nil)) pe_int)))
  (pss_cons (ps_if (pt_cmpR op_eq (pe_op op_mod (pe_callTy call_intI (by rfl) T.z_int (by decide +kernel) (pa_cons (pe_ix (ix_listK (K := K) rfl) (pv 0) (pe_op op_add (pv 1) pe_int) (fun _ _ => rfl)) pa_nil)) pe_int) pe_int (nomark _))
   (pss_cons (ps_set (i := 5) sc__law_limit.nd rfl (Or.inl rfl) (pe_op op_mod (pe_callTy call_intI (by rfl) T.z_int (by decide +kernel) (pa_cons (pe_op op_add (pe_op op_mul (pe_ix (ix_listK (K := K) rfl) (pv 0) (pe_op op_add (pv 1) pe_int) (fun _ _ => rfl)) pe_int) (pe_ix (ix_listK (K := K) rfl) (pv 0) (pe_op op_add (pv 1) pe_int) (fun _ _ => rfl))) pa_nil)) pe_int))
  (pss_one (ps_set (i := 6) sc__law_limit.nd rfl (Or.inl rfl) (pe_op op_add pe_int (pe_op op_mod (pe_callTy call_intI (by rfl) T.z_int (by decide +kernel) (pa_cons (pe_op op_add (pe_op op_mul (pe_ix (ix_listK (K := K) rfl) (pv 0) (pe_op op_add (pv 1) pe_int) (fun _ _ => rfl)) pe_int) (pe_ix (ix_listK (K := K) rfl) (pv 0) (pe_op op_add (pv 1) pe_int) (fun _ _ => rfl))) pa_nil)) pe_int)))))
   pss_nil)
  (pss_cons (ps_if (pt_cmpR op_eq (pv 4) pe_str (nomark _))
   (pss_cons (ps_set (i := 7) sc__law_limit.nd rfl (Or.inl rfl) (pe_call (ok__law_shares T) (hr.mono (by decide)) (by rfl) T.g__law_shares T.F__law_shares.kp T.b__law_shares .nil pass0 (pa_cons (pv 0) (pa_cons (pe_op op_add (pv 1) pe_int) (pa_cons (pv 3) pa_nil)))))
  (pss_one (ps_ret (pe_tup (pa_cons (pv 2) (pa_cons (pv 4) (pa_cons (pe_tup pa_nil) (pa_cons (pe_tup (pa_cons (pe_op op_add (pe_callB (cr_sumK (K := K) rfl rfl) (by rfl) T.z_sum (by decide +kernel) (pa_cons (pe_lc (own := [("_law_share", 10)]) (g := gName 10) (tt := tYes) rfl sc__law_limit.nd (pi_tupK (K := K) rfl (pv 7)) (blkOk_by (own := [("_law_share", 10)]) (N := ["_law_numbers_here", "_law_at", "_law_name", "_law_groups", "_law_word", "_law_first", "_law_second", "_law_shares_here", "_law_looked", "_law_bits", "_law_share", "_law_k"]) (sc := defScope s__law_limit) (by decide +kernel)) (fun _ _ _ _ _ => (pg_name (i := 10) sc__law_limit.nd rfl (Or.inl rfl))) (fun _ _ _ _ _ => pts_nil) (fun _ _ _ _ _ => (pe_ix (ix_tupK (K := K) rfl) (pv 10) pe_int (fun _ _ => rfl)))) pa_nil)) (pe_op op_mod (pe_callTy call_intI (by rfl) T.z_int (by decide +kernel) (pa_cons (pv 5) pa_nil)) pe_int)) (pa_cons (pv 7) pa_nil))) pa_nil))))))))
   pss_nil)
  (pss_cons (ps_set (i := 8) sc__law_limit.nd rfl (Or.inl rfl) (pe_tup pa_nil))
  (pss_cons (ps_if (pt_cmpR op_gt (pe_op op_mod (pe_callTy call_intI (by rfl) T.z_int (by decide +kernel) (pa_cons (pe_ix (ix_listK (K := K) rfl) (pv 0) (pe_op op_add (pv 1) pe_int) (fun _ _ => rfl)) pa_nil)) pe_int) pe_int (nomark _))
   (pss_cons (ps_set (i := 9) sc__law_limit.nd rfl (Or.inr rfl) (pe_tup (pa_cons pe_int (pa_cons pe_int (pa_cons pe_int (pa_cons pe_int (pa_cons pe_int (pa_cons pe_int (pa_cons pe_int (pa_cons pe_int pa_nil))))))))))
  (pss_one (ps_set (i := 8) sc__law_limit.nd rfl (Or.inl rfl) (pe_callTy (call_tupK (K := K) rfl) (by rfl) T.z_tuple (by decide +kernel) (pa_cons (pe_callB (cr_sortedDK (K := K) rfl hr.units) (by rfl) T.z_sorted (by decide +kernel) (pa_cons (pe_lc (own := [("_law_k", 11)]) (g := gName 11) rfl sc__law_limit.nd (pi_range1 (by rfl) T.z_range (pa_cons (pe_callB (call_lenK (K := K) rfl) (by rfl) T.z_len (by decide +kernel) (pa_cons (pv 3) pa_nil)) pa_nil)) (blkOk_by (own := [("_law_k", 11)]) (N := ["_law_numbers_here", "_law_at", "_law_name", "_law_groups", "_law_word", "_law_first", "_law_second", "_law_shares_here", "_law_looked", "_law_bits", "_law_share", "_law_k"]) (sc := defScope s__law_limit) (by decide +kernel)) (fun _ _ _ _ _ => (pg_name (i := 11) sc__law_limit.nd rfl (Or.inl rfl))) (fun _ _ _ _ _ => (pts_one (pt_cmpR op_eq (pe_op op_mod (pe_callTy call_intI (by rfl) T.z_int (by decide +kernel) (pa_cons (pe_op op_fdiv (pe_ix (ix_listK (K := K) rfl) (pv 0) (pe_op op_add (pv 1) pe_int) (fun _ _ => rfl)) (pe_ix (ix_tupK (K := K) rfl) (pv 9) (pv 11) (fun _ _ => rfl))) pa_nil)) pe_int) pe_int (nomark _)))) (fun _ _ _ _ _ => (pe_ix (ix_listK (K := K) rfl) (pv 3) (pv 11) (fun _ _ => rfl)))) pa_nil)) pa_nil)))))
   pss_nil)
  (pss_cons (ps_if (PW.pt (pw_or (pt_cmpR op_eq (pv 4) pe_str (nomark _)) (pw_or1 (pt_cmpR op_eq (pv 4) pe_str (nomark _)))))
   (pss_one (ps_ret (pe_tup (pa_cons (pv 2) (pa_cons (pv 4) (pa_cons (pv 8) (pa_cons (pe_tup (pa_cons (pe_callB (call_max2N rfl) (by rfl) T.z_max (by decide +kernel) (pa_cons (pv 5) (pa_cons (pe_callTy call_intB (by rfl) T.z_int (by decide +kernel) (pa_cons (pe_cmpR op_eq (pv 4) pe_str (nomark _)) pa_nil)) pa_nil))) pa_nil)) pa_nil)))))))
   pss_nil)
  (pss_one (ps_ret (pe_tup (pa_cons (pv 2) (pa_cons (pv 4) (pa_cons (pv 8) (pa_cons (pe_tup (pa_cons (pv 5) (pa_cons (pv 6) pa_nil))) pa_nil))))))))))))))), ?_⟩
    try dsimp only [cxOf, Cx.nox]
    walk_at "go"
    rename_i pw hpw
    obtain ⟨wd, hwa, hwd⟩ := words6 (ns.getD (Int.toNat 0) 0)
    refine g_ixT (by walk_at "sq") hwa ?_
    have hE1 := Evl.Ex.new hpw (o := .tup [V.str "window", V.str "span", V.str "bucket", V.str "gap", V.str "held", V.str "pool"])
    have hS1 := ex_sqL hE1 hS
    have hG1 := ex_sqL hE1 hG
    generalize upd H pw (.tup [V.str "window", V.str "span", V.str "bucket", V.str "gap", V.str "held", V.str "pool"]) = H1 at *
    clear hpw
    walk_at "go"
    refine w_thn (fun σ' H' => H' = H1 ∧ ∃ f s : Int, 0 ≤ f ∧ f ≤ 1000000 ∧ 1 ≤ s ∧ s ≤ 1000000 ∧ σ' = [some (.ref l), some (.int 0), some (.str nm), some (.ref pg), some (.str wd), some (.int f), some (.int s), none, none, none, none, none]) (fun h1 D' hD' => ?_) (fun h1 => ⟨rfl, _, _, ?_, ?_, ?_, ?_, rfl⟩) (fun σ' H' hW => ?_)
    · walk_at "go"
      refine hD' _ _ ⟨rfl, _, _, ?_, ?_, ?_, ?_, rfl⟩ <;> omega
    · omega
    · omega
    · omega
    · omega
    obtain ⟨rfl, f, s2, f0, f1, s0, s1, rfl⟩ := hW
    walk_at "go"
    refine w_dec (fun h1 => ?_) (fun h1 => ?_)
    · walk_at "go"
      refine ⟨l, ns, 6, pg, gs, rfl, hS1, h9, by decide, by omega, hG1, hgs, hg3, hg8, fun q6 xs H2 hE2 hq6 hx6 hok6 => ?_⟩
      walk_at "go"
      rename_i pe hpe
      have hEe := Evl.Ex.new hpe (o := .tup [])
      obtain ⟨o1, o2, o3, o4⟩ := hok6
      rw [List.length_map] at o1 o2
      have hq6e := ex_sqT hEe hq6
      refine lc_tupA (fun x : Addr × Shr => V.ref x.1) (fun x => V.int x.2.2.1) (0, "", 0, 0) hq6e (by omega) (fun x hx1 H3 e3 R hR => ?_) (fun pr H3 hpr hE3 hA3 => ?_)
      · have k5 := ex_sqT (hEe.trans e3) (hx6 x hx1)
        walk_at "go"
        exact hR _ (Evl.Ex.refl _)
      have hL3 : SqL K H3 pr (((xs.map (·.2)).map (·.2.1)).map V.int) := .inl (.inl (by rw [hA3]; simp only [List.map_map]; rfl))
      have hsum := sum_own (sh := xs.map (·.2)) fun s hs => ⟨(o4 s hs).2.1, (o4 s hs).2.2.1⟩
      rw [List.length_map] at hsum
      walk_at "go"
      refine g_sum hL3 ?_
      walk_at "go"
      rename_i pn hpn pt hpt
      have hE23 := hEe.trans hE3
      have hEn := Evl.Ex.new hpn (o := .tup [V.int (((xs.map (·.2)).map (·.2.1)).sum + f % 10), V.ref q6])
      have hEt := Evl.Ex.new hpt (o := .tup [V.str nm, V.str wd, V.ref pe, V.ref pn])
      refine q pt ⟨nm, wd, [], .pool (((xs.map (·.2)).map (·.2.1)).sum + f % 10) (xs.map (·.2))⟩ _ (hE1.trans (hE2.trans (hE23.trans (hEn.trans hEt)))) ⟨pe, pn, .inl (.inl upd_same), ?_, q6, xs, ?_, ?_, rfl, fun x hx => ?_⟩ ⟨hnm, (fun g hg => nomatch hg), h1, rfl, ?_, ?_, o3, fun s hs => ?_, ?_, ?_, ?_⟩ rfl
      · exact ex_sqT (hE3.trans (hEn.trans hEt)) (.inl (.inl upd_same))
      · exact ex_sqT hEt (.inl (.inl upd_same))
      · exact ex_sqT (hE23.trans (hEn.trans hEt)) hq6
      · exact ex_sqT (hE23.trans (hEn.trans hEt)) (hx6 x hx)
      · rw [List.length_map]; exact o1
      · rw [List.length_map]; exact o2
      · obtain ⟨b1, b2, b3, b4, b5⟩ := o4 s hs
        exact ⟨b1, b2, b4, Int.le_trans b5 (by decide)⟩
      · omega
      · show _ ≤ (1000000 : Int)
        omega
      · omega
    · walk_at "go"
      rename_i pe hpe
      have hEe := Evl.Ex.new hpe (o := .tup [])
      have hS2 := ex_sqL hEe hS1
      have hG2 := ex_sqL hEe hG1
      have hE1e := hE1.trans hEe
      have hPe : SqT K (upd H' pe (.tup [])) pe [] := .inl (.inl upd_same)
      generalize upd H' pe (.tup []) = H2 at *
      clear hpe hEe
      refine w_thn (fun σ' H3 => Ex H H3 ∧ ∃ (pk : Addr) (zs : List Str) (v9 v10 v11 : Option V), SqT K H3 pk (zs.map V.str) ∧ zs.length ≤ 8 ∧ (∀ g ∈ zs, isName g = true) ∧ Asc zs ∧ σ' = [some (.ref l), some (.int 0), some (.str nm), some (.ref pg), some (.str wd), some (.int f), some (.int s2), none, some (.ref pk), v9, v10, v11]) (fun h2 D' hD' => ?_) (fun h2 => ⟨hE1e, pe, [], none, none, none, hPe, Nat.zero_le _, (fun g hg => nomatch hg), List.Pairwise.nil, rfl⟩) (fun σ' H3 hW => ?_)
      · walk_at "go"
        rename_i pb hpb
        have hEb := Evl.Ex.new hpb (o := .tup [V.int 3, V.int 6, V.int 12, V.int 24, V.int 48, V.int 96, V.int 192, V.int 384])
        have hBt : SqT K (upd H2 pb (.tup [V.int 3, V.int 6, V.int 12, V.int 24, V.int 48, V.int 96, V.int 192, V.int 384])) pb [V.int 3, V.int 6, V.int 12, V.int 24, V.int 48, V.int 96, V.int 192, V.int 384] := .inl (.inl upd_same)
        generalize upd H2 pb (.tup [V.int 3, V.int 6, V.int 12, V.int 24, V.int 48, V.int 96, V.int 192, V.int 384]) = H3 at *
        clear hpb
        rw [hlg, show ((gs.length : Nat) : Int).toNat = gs.length by omega]
        refine lc_filtR (fun i => decide ((ns.getD (Int.toNat 6) 0 / bitsL.getD i 1) % 2 = 1)) (fun i => V.str (gs.getD i Str.empty)) (by omega) (fun i hi H4 e4 R N hR hN => ?_) (fun pz H4 hpz hE4 hA4 => ?_)
        · have hS4 := ex_sqL (hEb.trans e4) hS2
          have hG4 := ex_sqL (hEb.trans e4) hG2
          have hB4 := ex_sqT e4 hBt
          obtain ⟨hb1, hb2, hb3⟩ := bits8 (i := i) (by omega)
          have hgi : atI (gs.map V.str) (i : Nat) = some (.str (gs.getD i Str.empty)) := at_strs2 hi
          walk_at "go"
          refine g_ixT hB4 hb1 ?_
          walk_at "go"
          refine w_dec (fun h3 => ?_) (fun h3 => ?_)
          · walk_at "go"
            refine g_ixL hG4 hgi ?_
            exact hR (decide_eq_true h3) _ (Evl.Ex.refl _)
          · exact hN (decide_eq_false h3) _ (Evl.Ex.refl _)
        obtain ⟨zs, hzs⟩ : ∃ zs : List Str, zs = ((List.range gs.length).filter fun i => decide ((ns.getD (Int.toNat 6) 0 / bitsL.getD i 1) % 2 = 1)).map fun i => gs.getD i Str.empty := ⟨_, rfl⟩
        have hZ4 : SqL K H4 pz (zs.map V.str) := .inl (.inl (by rw [hA4, hzs, List.map_map]; rfl))
        have hznd : zs.Nodup := by rw [hzs]; exact nodup_getD hgs.1 _
        have hzin : ∀ z ∈ zs, z ∈ gs := fun z hz => by
          rw [hzs] at hz
          obtain ⟨i, hi, rfl⟩ := List.mem_map.mp hz
          have hi2 := List.mem_range.mp (List.mem_filter.mp hi).1
          rw [List.getD_eq_getElem?_getD, List.getElem?_eq_getElem hi2]
          exact List.getElem_mem hi2
        have hzl : zs.length ≤ 8 := by
          rw [hzs, List.length_map]
          refine Nat.le_trans (List.length_filter_le _ _) ?_
          rw [List.length_range]
          exact hg8
        clear hzs hA4
        walk_at "go"
        refine g_sortStr hZ4 (fun ps hps => ?_)
        have hEs := Evl.Ex.new hps (o := .lst ((sortS zs).map V.str))
        walk_at "go"
        rename_i pt hpt
        have hEt := Evl.Ex.new hpt (o := .tup ((sortS zs).map V.str))
        refine hD' _ _ ⟨hE1e.trans (hEb.trans (hE4.trans (hEs.trans hEt))), pt, sortS zs, _, _, _, .inl (.inl upd_same), ?_, fun g hg => ?_, asc_of ((sortS_perm zs).nodup_iff.mpr hznd) (sortS_sorted zs), rfl⟩
        · rw [(sortS_perm zs).length_eq]; exact hzl
        · exact hgs.2 g (hzin g ((sortS_perm zs).mem_iff.mp hg))
      · obtain ⟨hE3, pk, zs, v9, v10, v11, hZ, hz8, hzn, hza, rfl⟩ := hW
        walk_at "go"
        refine w_dec (fun h3 => ?_) (fun h3 => ?_)
        · walk_at "go"
          rename_i pn hpn pt hpt
          have eg : decide (wd = ("gap" : Str)) = true := decide_eq_true h3
          generalize hmm : (if (if decide (wd = ("gap" : Str)) = true then (1 : Int) else 0) > f then (if decide (wd = ("gap" : Str)) = true then (1 : Int) else 0) else f) = mm at hpt ⊢
          have hv1 : 1 ≤ mm ∧ mm ≤ 1000000 := by
            rw [eg, if_pos rfl] at hmm
            split at hmm <;> omega
          have hEn := Evl.Ex.new hpn (o := .tup [V.int mm])
          have hEt := Evl.Ex.new hpt (o := .tup [V.str nm, V.str wd, V.ref pk, V.ref pn])
          exact q pt ⟨nm, wd, zs, .flat [mm]⟩ _ (hE3.trans (hEn.trans hEt)) ⟨pk, pn, .inl (.inl upd_same), ex_sqT (hEn.trans hEt) hZ, ex_sqT hEt (.inl (.inl upd_same))⟩ ⟨hnm, hzn, .inr (.inl ⟨h3, _, rfl, hv1.1, hv1.2⟩), hz8, hza⟩ rfl
        · walk_at "go"
          refine w_dec (fun h4 => ?_) (fun h4 => ?_)
          · walk_at "go"
            rename_i pn hpn pt hpt
            have eg : decide (wd = ("gap" : Str)) = false := decide_eq_false h3
            generalize hmm : (if (if decide (wd = ("gap" : Str)) = true then (1 : Int) else 0) > f then (if decide (wd = ("gap" : Str)) = true then (1 : Int) else 0) else f) = mm at hpt ⊢
            have hv1 : 0 ≤ mm ∧ mm ≤ 1000000 := by
              rw [eg, if_neg (show ¬ (false = true) by decide)] at hmm
              split at hmm <;> omega
            have hEn := Evl.Ex.new hpn (o := .tup [V.int mm])
            have hEt := Evl.Ex.new hpt (o := .tup [V.str nm, V.str wd, V.ref pk, V.ref pn])
            exact q pt ⟨nm, wd, zs, .flat [mm]⟩ _ (hE3.trans (hEn.trans hEt)) ⟨pk, pn, .inl (.inl upd_same), ex_sqT (hEn.trans hEt) hZ, ex_sqT hEt (.inl (.inl upd_same))⟩ ⟨hnm, hzn, .inr (.inr ⟨h4, _, rfl, hv1.1, hv1.2⟩), hz8, hza⟩ rfl
          · walk_at "go"
            rename_i pn hpn pt hpt
            have hw3 : wd = "window" ∨ wd = "span" ∨ wd = "bucket" := by
              simp only [words6L, List.mem_cons, List.not_mem_nil, or_false] at hwd
              rcases hwd with z | z | z | z | z | z
              · exact .inl z
              · exact .inr (.inl z)
              · exact .inr (.inr z)
              · exact absurd z h3
              · exact absurd z h4
              · exact absurd z h1
            have hEn := Evl.Ex.new hpn (o := .tup [V.int f, V.int s2])
            have hEt := Evl.Ex.new hpt (o := .tup [V.str nm, V.str wd, V.ref pk, V.ref pn])
            exact q pt ⟨nm, wd, zs, .flat [f, s2]⟩ _ (hE3.trans (hEn.trans hEt)) ⟨pk, pn, .inl (.inl upd_same), ex_sqT (hEn.trans hEt) hZ, ex_sqT hEt (.inl (.inl upd_same))⟩ ⟨hnm, hzn, .inl ⟨hw3, _, _, rfl, f0, f1, s0, s1⟩, hz8, hza⟩ rfl
theorem ok__law_limits (T : Txt P w K mg a) : FnOk P w K mg base CX0 3 a.f__law_limits a.d__law_limits ["_law_numbers_here", "_law_at", "_law_groups"] (sp__law_limits K) := by
  refine T.F__law_limits.ok sc__law_limits (fun vs H Q E h => ?len) (fun cdv A outer s H vs Q E hr h => ?body)
  case len => obtain ⟨l, ns, at_, pg, gs, rfl, _⟩ := h; rfl
  case body =>
    obtain ⟨l, ns, at_, pg, gs, rfl, hS, h9, hat0, hat1, hnl, hG, hgs, hg3, hg8, q⟩ := h
    have n0 := h9.at at_.toNat (by omega)
    have n1 := h9.at (at_ + 1).toNat (by omega)
    have n2 := h9.at (at_ + 2).toNat (by omega)
    refine ⟨_, (pss_cons (ps_set (i := 3) sc__law_limits.nd rfl (Or.inl rfl) (pe_call (ok__law_names T) (hr.mono (by decide)) (by rfl) T.g__law_names T.F__law_names.kp T.b__law_names .nil pass0 (pa_cons (pe_ix (ix_listK (K := K) rfl) (pv 0) (pe_op op_add (pv 1) pe_int) (fun _ _ => rfl)) (pa_cons (pe_ix (ix_listK (K := K) rfl) (pv 0) (pe_op op_add (pv 1) pe_int) (fun _ _ => rfl)) (pa_cons pe_int pa_nil)))))
  (pss_cons (ps_set (i := 4) sc__law_limits.nd rfl (Or.inl rfl) (pe_lst pa_nil))
  (pss_cons (ps_set (i := 5) sc__law_limits.nd rfl (Or.inl rfl) (pe_op op_add pe_int (pe_op op_mod (pe_callTy call_intI (by rfl) T.z_int (by decide +kernel) (pa_cons (pe_ix (ix_listK (K := K) rfl) (pv 0) (pv 1) (fun _ _ => rfl)) pa_nil)) pe_int)))
  (pss_cons (ps_if (pt_cmpR op_gt (pe_op op_mod (pe_callTy call_intI (by rfl) T.z_int (by decide +kernel) (pa_cons (pe_ix (ix_listK (K := K) rfl) (pv 0) (pv 1) (fun _ _ => rfl)) pa_nil)) pe_int) pe_int (nomark _))
   (pss_one (ps_set (i := 5) sc__law_limits.nd rfl (Or.inl rfl) (pe_op op_add pe_int (pe_op op_mod (pe_callTy call_intI (by rfl) T.z_int (by decide +kernel) (pa_cons (pe_ix (ix_listK (K := K) rfl) (pv 0) (pv 1) (fun _ _ => rfl)) pa_nil)) pe_int))))
   pss_nil)
  (pss_cons (ps_for PassesOwn.never rfl (pi_range1 (by rfl) T.z_range (pa_cons (pv 5) pa_nil)) (pg_name (i := 6) sc__law_limits.nd rfl (Or.inl rfl))
   (pss_cons (ps_set (i := 7) sc__law_limits.nd rfl (Or.inr rfl) (pe_op op_fdiv (pv 6) pe_int))
  (pss_cons (ps_set (i := 8) sc__law_limits.nd rfl (Or.inr rfl) (pe_op op_add (pe_op op_add (pv 1) pe_int) (pe_op op_mul pe_int (pe_op op_mod (pe_callTy call_intI (by rfl) T.z_int (by decide +kernel) (pa_cons (pv 6) pa_nil)) pe_int))))
  (pss_cons (ps_setLc (i := 9) (own := [("_law_j", 10)]) (g := gName 10) (tt := tYes) rfl sc__law_limits.nd rfl rfl (sw_true rfl rfl rfl (by decide +kernel)) (pi_range1 (by rfl) T.z_range (pa_cons pe_int pa_nil)) (blkOk_by (own := [("_law_j", 10)]) (N := ["_law_numbers_here", "_law_at", "_law_groups", "_law_names_here", "_law_limits_here", "_law_many", "_law_k", "_law_turn", "_law_place", "_law_row_here", "_law_j"]) (sc := defScope s__law_limits) (by decide +kernel)) (fun _ _ _ _ _ => (pg_name (i := 10) sc__law_limits.nd rfl (Or.inl rfl))) (fun _ _ _ _ _ => pts_nil) (fun _ _ _ _ _ => (pe_op op_mod (pe_callTy call_intI (by rfl) T.z_int (by decide +kernel) (pa_cons (pe_op op_add (pe_op op_mul (pe_ix (ix_listK (K := K) rfl) (pv 0) (pe_op op_add (pv 8) (pe_op op_mod (pe_callTy call_intI (by rfl) T.z_int (by decide +kernel) (pa_cons (pe_op op_add (pv 10) (pe_op op_mul pe_int (pv 7))) pa_nil)) pe_int)) (fun _ _ => rfl)) (pe_op op_add pe_int (pv 7))) (pv 7)) pa_nil)) pe_int)))
  (pss_one (ps_expr (pe_bmK (K := K) rfl PySem.F.plainAttrs_list PySem.F.slot_list_append PySem.F.type_list_append mt_append (pv 4) (pa_cons (pe_call (ok__law_limit T) (hr.mono (by decide)) (by rfl) T.g__law_limit T.F__law_limit.kp T.b__law_limit .nil pass0 (pa_cons (pv 9) (pa_cons pe_int (pa_cons (pe_ix (ix_listK (K := K) rfl) (pv 3) (pv 6) (fun _ _ => rfl)) (pa_cons (pv 2) pa_nil))))) pa_nil))))))))
  (pss_one (ps_ret (pv 4)))))))), ?_⟩
    try dsimp only [cxOf, Cx.nox]
    walk_at "go"
    refine ⟨_, _, _, rfl, n1.1, by omega, n2.1, by omega, by decide, by decide, fun pn zs H1 hpn hE1 hA1 hz hzl => ?_⟩
    have hS1 := ex_sqL hE1 hS
    have hG1 := ex_sqL hE1 hG
    have hZ1 : SqL K H1 pn (zs.map V.str) := .inl (.inl hA1)
    walk_at "go"
    rename_i pl hpl
    have hpl1 : H1 pl = none := hpl
    have hplH : H pl = none := by
      cases z : H pl with
      | none => rfl
      | some o => rw [hE1 _ _ z] at hpl; cases hpl
    have hEl := Evl.Ex.new hpl (o := .lst [])
    have hS2 := ex_sqL hEl hS1
    have hG2 := ex_sqL hEl hG1
    have hZ2 := ex_sqL hEl hZ1
    have hA2 : upd H1 pl (.lst []) pl = some (.lst []) := upd_same
    have hE2 := hE1.trans hEl
    generalize upd H1 pl (.lst []) = H2 at *
    clear hpl hpn
    refine w_thn (fun σ' H' => H' = H2 ∧ ∃ m : Int, 1 ≤ m ∧ m ≤ 8 ∧ σ' = [some (.ref l), some (.int at_), some (.ref pg), some (.ref pn), some (.ref pl), some (.int m), none, none, none, none, none]) (fun h1 D' hD' => ?_) (fun h1 => ⟨rfl, _, ?_, ?_, rfl⟩) (fun σ' H' hW => ?_)
    · walk_at "go"
      refine hD' _ _ ⟨rfl, _, ?_, ?_, rfl⟩ <;> omega
    · omega
    · omega
    obtain ⟨rfl, m, m1, m8, rfl⟩ := hW
    walk_at "go"
    refine l_it walk_range (fun i σ' H3 => ∃ (v6 v7 v8 v9 v10 : Option V) (xs : List (Addr × Lm)), σ' = [some (.ref l), some (.int at_), some (.ref pg), some (.ref pn), some (.ref pl), some (.int m), v6, v7, v8, v9, v10] ∧ Ex H H3 ∧ Ex H1 H3 ∧ H3 pl = some (.lst (xs.map lV)) ∧ LmsAt K H3 xs ∧ (∀ x ∈ xs, x.2.Ok) ∧ xs.map lN = zs.take i) ⟨none, none, none, none, none, [], rfl, hE2, hEl, hA2, (fun x hx => nomatch hx), (fun x hx => nomatch hx), rfl⟩ (fun i σ' H3 hi hP => trivial) (fun i x σ' H3 H4 hi hP hY => ?_) (fun σ' H3 hP => ?_)
    · obtain ⟨v6, v7, v8, v9, v10, xs, rfl, hE3, hE13, hA3, hL3, hok3, hn3⟩ := hP
      obtain ⟨rfl, rfl⟩ := hY
      rw [show ((fun i : Nat => V.int (0 + (i : Int))) i) = V.int (i : Nat) from congrArg V.int (Int.zero_add _)]
      have hS3 := ex_sqL hE3 hS
      have hG3 := ex_sqL hE3 hG
      have hZ3 := ex_sqL hE13 hZ1
      have hi8 : i < 8 := by omega
      have hxl : xs.length ≤ 8 := by
        have := congrArg List.length hn3
        rw [List.length_map, List.length_take] at this
        omega
      have hzi : atI (zs.map V.str) (i : Nat) = some (.str (zs.getD i Str.empty)) := at_strs2 (by omega)
      walk_at "go"
      refine lc_rng (fun j : Nat => V.int ((ns.getD (at_ + 3 + 9 * ((i : Int) % 4) + ((j : Int) + 2 * ((i : Int) / 4)) % 9).toNat 0 * (1 + (i : Int) / 4) + (i : Int) / 4) % 1009)) (by decide) (fun j hj H4 e4 R hR => ?_) (fun pr H4 hpr hE4 hA4 => ?_)
      · have hS4 := ex_sqL e4 hS3
        have hj9 : j < 9 := hj
        have h90 := h9.at (at_ + 3 + 9 * ((i : Int) % 4) + ((j : Int) + 2 * ((i : Int) / 4)) % 9).toNat (by omega)
        walk_at "go"
        exact hR _ (Evl.Ex.refl _)
      obtain ⟨rs, hrs⟩ : ∃ rs : List Int, rs = (List.range 9).map fun j : Nat => (ns.getD (at_ + 3 + 9 * ((i : Int) % 4) + ((j : Int) + 2 * ((i : Int) / 4)) % 9).toNat 0 * (1 + (i : Int) / 4) + (i : Int) / 4) % 1009 := ⟨_, rfl⟩
      have hrl : rs.length = 9 := by rw [hrs, List.length_map, List.length_range]
      have hr9 : In9 rs := fun z hz2 => by
        rw [hrs] at hz2
        obtain ⟨j, _, rfl⟩ := List.mem_map.mp hz2
        exact ⟨Int.emod_nonneg _ (by decide), Int.emod_lt_of_pos _ (by decide)⟩
      have hR4 : SqL K H4 pr (rs.map V.int) := .inl (.inl (by rw [hA4, hrs, List.map_map]; rfl))
      have hG4 := ex_sqL hE4 hG3
      have hZ4 := ex_sqL hE4 hZ3
      walk_at "go"
      refine g_ixL hZ4 hzi ?_
      walk_at "go"
      have hnmi : isName (zs.getD i Str.empty) = true := hz.2 _ (by
        rw [List.getD_eq_getElem?_getD, List.getElem?_eq_getElem (show i < zs.length by omega)]
        exact List.getElem_mem _)
      refine ⟨pr, rs, zs.getD i Str.empty, pg, gs, rfl, hR4, hr9, hrl, hnmi, hG4, hgs, hg3, hg8, fun p2 l2 H5 hE5 hL5 hok5 hn5 => ?_⟩
      have hE35 := hE4.trans hE5
      have hA5 := hE35 _ _ hA3
      have hL5' := hL3.mono hE35
      walk_at "go"
      refine ⟨_, _, _, _, _, xs ++ [(p2, l2)], rfl, fun b2 o2 hb => ?_, fun b2 o2 hb => ?_, by rw [upd_same, List.map_append]; rfl, fun x hx => ?_, fun x hx => ?_, ?_⟩
      · rw [upd_ne (fun z => by rw [z, hplH] at hb; cases hb)]
        exact hE35 _ _ (hE3 _ _ hb)
      · rw [upd_ne (fun z => by rw [z, hpl1] at hb; cases hb)]
        exact hE35 _ _ (hE13 _ _ hb)
      · rcases List.mem_append.mp hx with hx | hx
        · exact (hL5' x hx).tr fun q vs z => sqT_lst hA5 z
        · rw [List.mem_singleton.mp hx]
          exact hL5.tr fun q vs z => sqT_lst hA5 z
      · rcases List.mem_append.mp hx with hx | hx
        · exact hok3 x hx
        · rw [List.mem_singleton.mp hx]
          exact hok5
      · rw [List.map_append, hn3, List.take_add_one, List.getElem?_eq_getElem (show i < zs.length by omega)]
        show _ ++ [l2.nm] = _ ++ [zs[i]]
        rw [hn5, List.getD_eq_getElem?_getD, List.getElem?_eq_getElem (show i < zs.length by omega)]
        rfl
    · obtain ⟨v6, v7, v8, v9, v10, xs, rfl, hE3, hE13, hA3, hL3, hok3, hn3⟩ := hP
      have hxl := congrArg List.length hn3
      rw [List.length_map, List.length_take] at hxl
      walk_at "go"
      exact q pl xs _ hplH hE3 hA3 hL3 hok3 (by omega) (by omega) (by rw [hn3]; exact hz.1.sublist (List.take_sublist _ _))
theorem ok__law_is_integer (T : Txt P w K mg a) : FnOk P w K mg base CX0 1 a.f__law_is_integer a.d__law_is_integer ["_law_actual"] (sp__law_is_integer K) := by
  refine T.F__law_is_integer.ok sc__law_is_integer (fun vs H Q E h => ?len) (fun cdv A outer s H vs Q E hr h => ?body)
  case len => obtain ⟨i, rfl, _⟩ := h; rfl
  case body =>
    obtain ⟨i, rfl, q⟩ := h
    refine ⟨_, (pss_one (ps_ret (pe_and (pe_callB (call_instK (K := K) rfl) (by rfl) T.z_isinstance (by decide +kernel) (pa_cons (pv 0) (pa_cons (pe_bltn (v := .ty "int") (by rfl) T.z_int (by decide +kernel) rfl) pa_nil))) (pe_one (pe_not (pe_callB (call_instK (K := K) rfl) (by rfl) T.z_isinstance (by decide +kernel) (pa_cons (pv 0) (pa_cons (pe_bltn (v := .ty "bool") (by rfl) T.z_bool (by decide +kernel) rfl) pa_nil)))))))), ?_⟩
    try dsimp only [cxOf, Cx.nox]
    walk_at "go"
    exact q _ (Evl.Ex.refl _)
theorem ok__law_is_never (T : Txt P w K mg a) : FnOk P w K mg base CX0 3 a.f__law_is_never a.d__law_is_never ["_law_limits_here", "_law_lets", "_law_given", "_law_request", "_law_moment"] (sp__law_is_never K) := by
  refine T.F__law_is_never.ok sc__law_is_never (fun vs H Q E h => ?len) (fun cdv A outer s H vs Q E hr h => ?body)
  case len => obtain ⟨pL, pq, pg, pr, ls, qs, gone, k, g, c, mo, rfl, _⟩ := h; rfl
  case body =>
    obtain ⟨pL, pq, pg, pr, ls, qs, gone, k, g, c, mo, rfl, hSL, hLs, hok, hl8, hSq, hQ, hql, hSg, hgl, hR, q⟩ := h
    refine ⟨_, (pss_cons (ps_for PassesOwn.never rfl (pi_listK (K := K) rfl (pv 0)) (pg_name (i := 5) sc__law_is_never.nd rfl (Or.inl rfl))
   (pss_one (ps_if (PW.pt (pw_and (pt_val (pe_call (ok__law_looks T) (hr.mono (by decide)) (by rfl) T.g__law_looks T.F__law_looks.kp T.b__law_looks .nil pass0 (pa_cons (pv 5) (pa_cons (pe_ix (ix_tupK (K := K) rfl) (pv 3) pe_int (fun _ _ => rfl)) pa_nil)))) (pw_and1 (pt_cmpR op_ne (pe_ix (ix_tupK (K := K) rfl) (pv 5) pe_int (fun _ _ => rfl)) pe_str (nomark _)))))
   (pss_one (ps_if (pt_cmpR (op_inK (K := K) rfl) (pe_ix (ix_tupK (K := K) rfl) (pv 5) pe_int (fun _ _ => rfl)) (pe_lst (pa_cons pe_str (pa_cons pe_str pa_nil))) rfl)
   (pss_one (ps_if (pt_not (pt_val (pe_call (ok__law_room T) (hr.mono (by decide)) (by rfl) T.g__law_room T.F__law_room.kp T.b__law_room .nil pass0 (pa_cons (pv 5) (pa_cons (pv 1) (pa_cons (pv 2) (pa_cons (pv 3) (pa_cons (pv 4) pa_nil))))))))
   (pss_one (ps_ret pe_bl))
   pss_nil))
   (pss_one (ps_if (pt_cmpR op_gt (pe_ix (ix_tupK (K := K) rfl) (pv 3) pe_int (fun _ _ => rfl)) (pe_ix (ix_tupK (K := K) rfl) (pe_ix (ix_tupK (K := K) rfl) (pv 5) pe_int (fun _ _ => rfl)) pe_int (fun _ _ => rfl)) (nomark _))
   (pss_one (ps_ret pe_bl))
   pss_nil))))
   pss_nil)))
  (pss_one (ps_ret pe_bl))), ?_⟩
    try dsimp only [cxOf, Cx.nox]
    walk_at "go"
    refine l_it (walk_list (xs := ls.map lV)) (fun i σ' H' => ∃ (v5 : Option V), σ' = [some (.ref pL), some (.ref pq), some (.ref pg), some (.ref pr), some (.int mo), v5] ∧ Ex H H' ∧ neverB (ls.take i) (qs.map (·.2)) gone g c = false) ⟨none, rfl, Evl.Ex.refl _, rfl⟩ (fun i σ' H' hi hP => ?_) (fun i x σ' H2b H2 hi hP hY => ?_) (fun σ' H2 hP => ?_)
    · obtain ⟨_, _, e, _⟩ := hP
      exact ex_sqL e hSL
    · obtain ⟨v5, rfl, hE, hN⟩ := hP
      obtain ⟨rfl, hxi⟩ := hY
      rw [List.getElem?_map] at hxi
      cases hxe : ls[i]? with
      | none => rw [hxe] at hxi; cases hxi
      | some y0 =>
        rw [hxe] at hxi
        have ex : lV y0 = x := Option.some.inj hxi
        subst ex
        obtain ⟨p, l⟩ := y0
        have hmem := List.mem_of_getElem? hxe
        have hL : LmAt K H2 p l := (hLs _ hmem).mono hE
        have hokl : l.Ok := hok _ hmem
        have hR2 := ex_sqT hE hR
        have hSq2 := ex_sqL hE hSq
        have hSg2 := ex_sqL hE hSg
        have hQ2 := hQ.mono hE
        have hgo : (seesL l g && neverS l (qs.map (·.2)) gone g c) = false → neverB (ls.take (i + 1)) (qs.map (·.2)) gone g c = false := fun h => never_step hxe hN h
        have hst : (seesL l g && neverS l (qs.map (·.2)) gone g c) = true → neverB ls (qs.map (·.2)) gone g c = true := fun h => never_hit hmem h
        walk_at "go"
        refine ⟨p, l, g, rfl, hL, hokl, fun H3 hE3 => ?_⟩
        have hE03 := hE.trans hE3
        have hL3 := hL.mono hE3
        obtain ⟨pgs, pn, l1, l2, l3⟩ := id hL3
        have hR3 := ex_sqT hE3 hR2
        walk_at "go"
        refine w_ite (fun h1 => ?_) (fun h1 => ?_)
        · walk_at "go"
          refine w_ndec (fun hw => ?_) (fun hw => ?_)
          · walk_at "go"
            rename_i pw hpw
            have hEw := Evl.Ex.new hpw (o := .lst [V.str "held", V.str "pool"])
            refine g_inL (zs := ["held", "pool"]) (.inl (.inl upd_same)) ?_
            have hE04 := hE03.trans hEw
            have hL4 := hL3.mono hEw
            have l14 := ex_sqT hEw l1
            have l34 := NuAt.mono l3 hEw
            have hR4 := ex_sqT hEw hR3
            generalize upd H3 pw (.lst [V.str "held", V.str "pool"]) = H4 at *
            clear hpw hEw hL3 l1 l3 hR3
            walk_at "go"
            refine w_dec (fun hin => ?_) (fun hin => ?_)
            · have hhp : l.wd = "held" ∨ l.wd = "pool" := by
                rcases List.mem_cons.mp hin with z | z
                · exact .inl z
                · exact .inr (List.mem_singleton.mp z)
              walk_at "go"
              refine ⟨p, pq, pg, pr, l, qs, gone, k, g, c, mo, rfl, hL4, hokl, ex_sqL hE04 hSq, hQ.mono hE04, hql, ex_sqL hE04 hSg, hgl, hR4, fun H5 hE5 => ?_⟩
              have hrm : roomB l (qs.map (·.2)) gone g c mo = roomS l (qs.map (·.2)) gone g c mo := by unfold roomB; rw [h1]; rfl
              rw [hrm]
              have hE05 := hE04.trans hE5
              have hnv := never_hp (xs := qs.map (·.2)) (gone := gone) (g := g) (c := c) (mo := mo) hokl hhp
              walk_at "go"
              refine w_ite (fun h6 => ?_) (fun h6 => ?_)
              · walk_at "go"
                have q1 := q _ hE05
                rw [hst (by rw [h1, hnv, h6]; rfl)] at q1
                exact q1
              · exact ⟨_, rfl, hE05, hgo (by rw [h1, hnv, h6]; rfl)⟩
            · obtain ⟨a, b, hn, hnv⟩ := never_two (xs := qs.map (·.2)) (gone := gone) (g := g) (c := c) hokl hw (fun z => hin (by rw [z]; exact List.mem_cons_self)) (fun z => hin (by rw [z]; exact List.mem_cons_of_mem _ List.mem_cons_self))
              rw [hn] at l34
              have l34 : SqT K H4 pn [.int a, .int b] := l34
              walk_at "go"
              refine w_dec (fun h6 => ?_) (fun h6 => ?_)
              · walk_at "go"
                have q1 := q _ hE04
                rw [hst (by rw [h1, hnv, decide_eq_true h6]; rfl)] at q1
                exact q1
              · exact ⟨_, rfl, hE04, hgo (by rw [h1, hnv, decide_eq_false h6]; rfl)⟩
          · exact ⟨_, rfl, hE03, hgo (by rw [never_gap hokl hw, Bool.and_false])⟩
        · exact ⟨_, rfl, hE03, hgo (by rw [h1]; rfl)⟩
    · obtain ⟨v5, rfl, hE, hN⟩ := hP
      rw [List.length_map, List.take_of_length_le (Nat.le_refl _)] at hN
      walk_at "go"
      have q1 := q _ hE
      rw [hN] at q1
      exact q1
theorem ok__law_is_earliest (T : Txt P w K mg a) : FnOk P w K mg base CX0 4 a.f__law_is_earliest a.d__law_is_earliest ["_law_earliest", "_law_limits_here", "_law_lets", "_law_given", "_law_request", "_law_moment"] (sp__law_is_earliest K) := by
  refine T.F__law_is_earliest.ok sc__law_is_earliest (fun vs H Q E h => ?len) (fun cdv A outer s H vs Q E hr h => ?body)
  case len => obtain ⟨pL, pq, pg, pr, ls, qs, gone, k, g, c, mo, e, rfl, _⟩ := h; rfl
  case body =>
    obtain ⟨pL, pq, pg, pr, ls, qs, gone, k, g, c, mo, e, rfl, hSL, hLs, hok, hl8, hSq, hQ, hql, hSg, hgl, hR, hx, hsum, hc0, hc1, q⟩ := h
    have hF := lack_falls (ls := ls) (gone := gone) (g := g) (c := c) hok hx
    have hfar := lack_far (gone := gone) (g := g) hok hx hsum hc0 hc1
    have hasked := fun e : Int => soon_asked (e := e) hF (fun h t ht => lack_never hok hx (by rw [← hfar]; exact h))
    refine ⟨_, (pss_cons (ps_if (pt_cmpR op_isNN (pv 0) pe_non (nomark _))
   (pss_one (ps_ret (pe_call (ok__law_is_never T) (hr.mono (by decide)) (by rfl) T.g__law_is_never T.F__law_is_never.kp T.b__law_is_never .nil pass0 (pa_cons (pv 1) (pa_cons (pv 2) (pa_cons (pv 3) (pa_cons (pv 4) (pa_cons (pv 5) pa_nil))))))))
   pss_nil)
  (pss_cons (ps_if (PW.pt (pw_or (pt_not (pt_val (pe_call (ok__law_is_integer T) (hr.mono (by decide)) (by rfl) T.g__law_is_integer T.F__law_is_integer.kp T.b__law_is_integer .nil pass0 (pa_cons (pv 0) pa_nil)))) (pw_or1 (pt_cmpR op_lt (pv 0) (pv 5) (nomark _)))))
   (pss_one (ps_ret pe_bl))
   pss_nil)
  (pss_cons (ps_if (pt_cmpR op_gt (pe_callB (call_lenK (K := K) rfl) (by rfl) T.z_len (by decide +kernel) (pa_cons (pe_call (ok__law_lacking T) (hr.mono (by decide)) (by rfl) T.g__law_lacking T.F__law_lacking.kp T.b__law_lacking .nil pass0 (pa_cons (pv 1) (pa_cons (pv 2) (pa_cons (pv 3) (pa_cons (pv 4) (pa_cons (pv 0) pa_nil)))))) pa_nil)) pe_int (nomark _))
   (pss_one (ps_ret pe_bl))
   pss_nil)
  (pss_one (ps_ret (pe_or (pe_cmpR op_eq (pv 0) (pv 5) (nomark _)) (pe_one (pe_cmpR op_gt (pe_callB (call_lenK (K := K) rfl) (by rfl) T.z_len (by decide +kernel) (pa_cons (pe_call (ok__law_lacking T) (hr.mono (by decide)) (by rfl) T.g__law_lacking T.F__law_lacking.kp T.b__law_lacking .nil pass0 (pa_cons (pv 1) (pa_cons (pv 2) (pa_cons (pv 3) (pa_cons (pv 4) (pa_cons (pe_op op_sub (pv 0) pe_int) pa_nil)))))) pa_nil)) pe_int (nomark _))))))))), ?_⟩
    try dsimp only [cxOf, Cx.nox]
    cases e with
    | none =>
      rw [show oN none = V.non from rfl]
      walk_at "go"
      refine ⟨pL, pq, pg, pr, ls, qs, gone, k, g, c, mo, rfl, hSL, hLs, hok, hl8, hSq, hQ, hql, hSg, hgl, hR, fun H1 hE1 => ?_⟩
      exact q _ _ hE1 (by rw [← hfar]; exact Iff.rfl)
    | some e =>
      rw [show oN (some e) = V.int e from rfl]
      have hA := hasked e
      walk_at "go"
      refine ⟨e, rfl, fun H1 hE1 => ?_⟩
      walk_at "go"
      refine w_dec (fun h1 => ?_) (fun h1 => ?_)
      · walk_at "go"
        exact q _ _ hE1 ⟨(fun z => nomatch z), fun z => by have := (hA.mp z).1; omega⟩
      walk_at "go"
      refine ⟨pL, pq, pg, pr, ls, qs, gone, k, g, c, e, rfl, ex_sqL hE1 hSL, hLs.mono hE1, hok, hl8, ex_sqL hE1 hSq, hQ.mono hE1, hql, ex_sqL hE1 hSg, hgl, ex_sqT hE1 hR, fun p2 H2 hE2 hA2 => ?_⟩
      have hE02 := hE1.trans hE2
      walk_at "go"
      rw [len_pos, lack_pos]
      refine w_ite (fun h2 => ?_) (fun h2 => ?_)
      · walk_at "go"
        exact q _ _ hE02 ⟨(fun z => nomatch z), fun z => by have := (hA.mp z).2.1; rw [h2] at this; cases this⟩
      walk_at "go"
      refine w_dec (fun h3 => ?_) (fun h3 => ?_)
      · exact q _ _ hE02 ⟨fun _ => hA.mpr ⟨by omega, h2, .inl h3⟩, fun _ => rfl⟩
      walk_at "go"
      refine ⟨pL, pq, pg, pr, ls, qs, gone, k, g, c, e - 1, rfl, ex_sqL hE02 hSL, hLs.mono hE02, hok, hl8, ex_sqL hE02 hSq, hQ.mono hE02, hql, ex_sqL hE02 hSg, hgl, ex_sqT hE02 hR, fun p3 H3 hE3 hA3 => ?_⟩
      walk_at "go"
      rw [len_pos, lack_pos]
      exact q _ _ (hE02.trans hE3) ⟨fun z => hA.mpr ⟨by omega, h2, .inr z⟩, fun z => by
        rcases (hA.mp z).2.2 with w | w
        · exact absurd w h3
        · exact w⟩
theorem ok__law_is_answer (T : Txt P w K mg a) : FnOk P w K mg base CX0 5 a.f__law_is_answer a.d__law_is_answer ["_law_actual", "_law_limits_here", "_law_lets", "_law_given", "_law_request", "_law_moment"] (sp__law_is_answer K a) := by
  refine T.F__law_is_answer.ok sc__law_is_answer (fun vs H Q E h => ?len) (fun cdv A outer s H vs Q E hr h => ?body)
  case len => obtain ⟨m, pL, pq, pg, pr, ls, qs, gone, k, g, c, mo, e, rfl, _⟩ := h; rfl
  case body =>
    obtain ⟨m, pL, pq, pg, pr, ls, qs, gone, k, g, c, mo, e, rfl, hA, hks, hk20, hSL, hLs, hok, hl8, hSq, hQ, hql, hSg, hgl, hR, hx, hsum, hc0, hc1, hsn, q⟩ := h
    have hcl := T.cl_Answer
    have n1 := T.nf_Answer_key
    have n2 := T.nf_Answer_moment
    have n3 := T.nf_Answer_lacking
    have n4 := T.nf_Answer_earliest
    have n5 := T.nf_Answer_is_let
    refine ⟨_, (pss_cons (ps_set (i := 6) sc__law_is_answer.nd rfl (Or.inl rfl) (pe_call (ok__law_lacking T) (hr.mono (by decide)) (by rfl) T.g__law_lacking T.F__law_lacking.kp T.b__law_lacking .nil pass0 (pa_cons (pv 1) (pa_cons (pv 2) (pa_cons (pv 3) (pa_cons (pv 4) (pa_cons (pv 5) pa_nil)))))))
  (pss_cons (ps_if (PW.pt (pw_or (pt_not (pt_val (pe_callB (call_isO (K := K) rfl T.io_Answer) (by rfl) T.z_isinstance (by decide +kernel) (pa_cons (pv 0) (pa_cons (pe_glob (v := .ref a.c_Answer) (by rfl) T.g_Answer rfl (by decide)) pa_nil))))) (pw_or (pt_not (pt_val (pe_callB (call_instK (K := K) rfl) (by rfl) T.z_isinstance (by decide +kernel) (pa_cons (pe_fldK (K := K) rfl (pv 0) rfl) (pa_cons (pe_bltn (v := .ty "tuple") (by rfl) T.z_tuple (by decide +kernel) rfl) pa_nil))))) (pw_or1 (pt_cmpR (op_neDK (K := K) rfl hr.units) (pe_fldK (K := K) rfl (pv 0) rfl) (pv 6) (nomark _))))))
   (pss_one (ps_ret pe_bl))
   pss_nil)
  (pss_cons (ps_if (PW.pt (pw_or (pt_cmpR op_ne (pe_fldK (K := K) rfl (pv 0) rfl) (pe_ix (ix_tupK (K := K) rfl) (pv 4) pe_int (fun _ _ => rfl)) (nomark _)) (pw_or (pt_not (pt_val (pe_call (ok__law_is_integer T) (hr.mono (by decide)) (by rfl) T.g__law_is_integer T.F__law_is_integer.kp T.b__law_is_integer .nil pass0 (pa_cons (pe_fldK (K := K) rfl (pv 0) rfl) pa_nil)))) (pw_or1 (pt_cmpR op_ne (pe_fldK (K := K) rfl (pv 0) rfl) (pv 5) (nomark _))))))
   (pss_one (ps_ret pe_bl))
   pss_nil)
  (pss_cons (ps_if (PW.pt (pw_or (pt_not (pt_val (pe_callB (call_instK (K := K) rfl) (by rfl) T.z_isinstance (by decide +kernel) (pa_cons (pe_fldK (K := K) rfl (pv 0) rfl) (pa_cons (pe_bltn (v := .ty "bool") (by rfl) T.z_bool (by decide +kernel) rfl) pa_nil))))) (pw_or1 (pt_cmpR op_ne (pe_fldK (K := K) rfl (pv 0) rfl) (pe_cmpR op_eq (pe_callB (call_lenK (K := K) rfl) (by rfl) T.z_len (by decide +kernel) (pa_cons (pv 6) pa_nil)) pe_int (nomark _)) (nomark _)))))
   (pss_one (ps_ret pe_bl))
   pss_nil)
  (pss_cons (ps_if (pt_cmpR (op_neDK (K := K) rfl hr.units) (pe_meth0 (pv 0) T.cl_Answer T.me_Answer_parts (ok_Answer_parts T) (hr.mono (by decide)) T.b_Answer_parts .nil pass0) (pe_tup (pa_cons (pe_ix (ix_tupK (K := K) rfl) (pv 4) pe_int (fun _ _ => rfl)) (pa_cons (pv 5) (pa_cons (pv 6) (pa_cons (pe_fldK (K := K) rfl (pv 0) rfl) pa_nil))))) (nomark _))
   (pss_one (ps_ret pe_bl))
   pss_nil)
  (pss_one (ps_ret (pe_call (ok__law_is_earliest T) (hr.mono (by decide)) (by rfl) T.g__law_is_earliest T.F__law_is_earliest.kp T.b__law_is_earliest .nil pass0 (pa_cons (pe_fldK (K := K) rfl (pv 0) rfl) (pa_cons (pv 1) (pa_cons (pv 2) (pa_cons (pv 3) (pa_cons (pv 4) (pa_cons (pv 5) pa_nil)))))))))))))), ?_⟩
    try dsimp only [cxOf, Cx.nox]
    walk_at "go"
    refine ⟨pL, pq, pg, pr, ls, qs, gone, k, g, c, mo, rfl, hSL, hLs, hok, hl8, hSq, hQ, hql, hSg, hgl, hR, fun pd H1 hE1 hD1 => ?_⟩
    have hA1 := hA.mono hE1
    have hzo : ∀ z ∈ lackOf ls (qs.map (·.2)) gone g c mo, PyData.strOk z = true := fun z hz => by
      obtain ⟨x, hx, _, h3⟩ := lack_mem.mp hz
      rw [← h3]
      exact isName_ok (hok x hx).1
    have hzl : (lackOf ls (qs.map (·.2)) gone g c mo).length ≤ 8 := Nat.le_trans lack_len hl8
    generalize lackOf ls (qs.map (·.2)) gone g c mo = zs at *
    obtain ⟨dx, pn, hm1, hZ1⟩ := id hA1
    have hR1 := ex_sqT hE1 hR
    have hlm : (((zs.map V.str).length : Nat) : Int) = (zs.length : Int) := by rw [List.length_map]
    walk_at "go"
    refine g_neSame (.tuple (zs.map PyData.str)) (dp_strsT hZ1) (dp_strsT hD1) (strs_shapedT hzo) ?_
    walk_at "go"
    refine w_ndec (fun h => absurd rfl h) (fun _ => ?_)
    walk_at "go"
    refine ⟨mo, rfl, fun H2 hE2 => ?_⟩
    have hE02 := hE1.trans hE2
    have hm2 := hE2 _ _ hm1
    have hA2 := hA1.mono hE2
    have hD2 := ex_sqT hE2 hD1
    have hR2 := ex_sqT hE2 hR1
    walk_at "go"
    refine w_ndec (fun h => absurd rfl h) (fun _ => ?_)
    walk_at "go"
    rw [hlm, show decide ((zs.length : Int) = 0) = decide (zs.length = 0) from by rw [Bool.eq_iff_iff, decide_eq_true_eq, decide_eq_true_eq]; omega]
    refine w_ndec (fun h => absurd rfl h) (fun _ => ?_)
    walk_at "go"
    refine ⟨m, k, mo, zs, e, rfl, hA2, fun p2 pn2 H3 hE3 hP3 hZ3 => ?_⟩
    have hE03 := hE02.trans hE3
    have hm3 := hE3 _ _ hm2
    have hD3 := ex_sqT hE3 hD2
    have hR3 := ex_sqT hE3 hR2
    walk_at "go"
    rename_i pt hpt
    have hEt := Evl.Ex.new hpt (o := .tup [V.str k, V.int mo, V.ref pd, oN e])
    have hE04 := hE03.trans hEt
    have hm4 := hEt _ _ hm3
    have hT4 : SqT K (upd H3 pt (.tup [V.str k, V.int mo, V.ref pd, oN e])) pt [V.str k, V.int mo, V.ref pd, oN e] := .inl (.inl upd_same)
    have hP4 := ex_sqT hEt hP3
    have hZ4 := ex_sqT hEt hZ3
    have hD4 := ex_sqT hEt hD3
    generalize upd H3 pt (.tup [V.str k, V.int mo, V.ref pd, oN e]) = H4 at *
    refine g_neSame (ansD k mo zs e) (ansD_dp hP4 hZ4) (ansD_dp hT4 hD4) (ansD_shaped hks hzo) ?_
    walk_at "go"
    refine ⟨pL, pq, pg, pr, ls, qs, gone, k, g, c, mo, e, rfl, ex_sqL hE04 hSL, hLs.mono hE04, hok, hl8, ex_sqL hE04 hSq, hQ.mono hE04, hql, ex_sqL hE04 hSg, hgl, ex_sqT hE04 hR, hx, hsum, hc0, hc1, fun r H5 hE5 hr => ?_⟩
    rw [hr.mpr hsn]
    exact q _ (hE04.trans hE5)
theorem ok__law_is_unknown (T : Txt P w K mg a) : FnOk P w K mg base CX0 4 a.f__law_is_unknown a.d__law_is_unknown ["_law_keeper", "_law_key"] (sp__law_is_unknown K a) := by
  refine T.F__law_is_unknown.ok sc__law_is_unknown (fun vs H Q E h => ?len) (fun cdv A outer s H vs Q E hr h => ?body)
  case len => obtain ⟨z, ms, mo, as, rs, k, rfl, _⟩ := h; rfl
  case body =>
    obtain ⟨z, ms, mo, as, rs, k, rfl, hK, hk, hlk, q⟩ := h
    have hcl := T.cl_Keeper
    obtain ⟨dx, hkp⟩ := hK.hk
    refine ⟨_, (pss_cons (ps_if (pt_cmpR op_isnotB (pe_meth (pv 0) T.cl_Keeper T.me_Keeper_knows (ok_Keeper_knows T) (hr.mono (by decide)) T.b_Keeper_knows .nil pass0 (pa_cons (pv 1) pa_nil)) pe_bl (nomark _))
   (pss_one (ps_ret pe_bl))
   pss_nil)
  (pss_cons (ps_try_as (i := 2) rfl rfl sc__law_is_unknown.nd rfl rfl ⟨rfl, by decide, Or.inl T.e_UnknownKey.gC⟩ takes0 (fun W pn xe tk pw => (pss_one (ps_expr (pe_methT (pv 0) T.cl_Keeper T.me_Keeper_answer_of (ok_Keeper_answer_of T) (hr.mono (by decide)) T.b_Keeper_answer_of (fun σ => passAt tk σ) (pa_cons (pv 1) pa_nil))))) (fun a_ oe cls d pn hz hf => (pss_one (ps_ret (pe_cmpR op_eq (pe_xf ⟨T.e_UnknownKey.ga, T.e_UnknownKey.gg, T.e_UnknownKey.exC, T.e_UnknownKey.hdC⟩ T.e_UnknownKey.noN hz hf (pv 2)) (pv 1) (nomark _))))))
  (pss_one (ps_ret pe_bl)))), ?_⟩
    try dsimp only [cxOf, Cx.nox]
    walk_at "go"
    refine ⟨z, ms, mo, as, rs, k, rfl, hK, ?_⟩
    rw [decide_eq_false hk]
    walk_at "go"
    refine g_isBl ?_
    rw [show (if true = true then !decide (false = false) else decide (false = false)) = false from rfl]
    walk_at "go"
    refine ⟨z, ms, mo, as, rs, k, rfl, hK, hlk, .inr ⟨hk, fun d H1 hE1 hd hxd => ?_⟩⟩
    refine g_as T.e_UnknownKey.te (fun ax hax => ?_)
    walk_at "go"
    have q1 := q H1 hE1
    rw [← decide_eq_true (rfl : k = k)] at q1
    exact q1
theorem ok_law (T : Txt P w K mg a) : FnOk P w K mg base CX0 7 a.f_law a.d_law ["_law_script"] (sp_law K) := by
  refine T.F_law.ok sc_law (fun vs H Q E h => ?len) (fun cdv A outer s H vs Q E hr h => ?body)
  case len => obtain ⟨l, xs, rfl, _⟩ := h; rfl
  case body =>
    obtain ⟨l, xs, rfl, hS, hx, q⟩ := h
    have hclK := T.cl_Keeper
    have nK2 := T.nf_Keeper_moment
    have hclA := T.cl_Answer
    have nA5 := T.nf_Answer_is_let
    refine ⟨_, (pss_cons (ps_set (i := 1) sc_law.nd rfl (Or.inl rfl) (pe_call (ok__law_numbers T) (hr.mono (by decide)) (by rfl) T.g__law_numbers T.F__law_numbers.kp T.b__law_numbers .nil pass0 (pa_cons (pv 0) (pa_cons pe_int pa_nil))))
  (pss_cons (ps_set (i := 2) sc_law.nd rfl (Or.inl rfl) (pe_call (ok__law_group_names T) (hr.mono (by decide)) (by rfl) T.g__law_group_names T.F__law_group_names.kp T.b__law_group_names .nil pass0 (pa_cons (pv 1) pa_nil)))
  (pss_cons (ps_set (i := 3) sc_law.nd rfl (Or.inl rfl) (pe_call (ok__law_limits T) (hr.mono (by decide)) (by rfl) T.g__law_limits T.F__law_limits.kp T.b__law_limits .nil pass0 (pa_cons (pv 1) (pa_cons pe_int (pa_cons (pv 2) pa_nil)))))
  (pss_cons (ps_set (i := 4) sc_law.nd rfl (Or.inl rfl) (pe_call (ok__law_keys T) (hr.mono (by decide)) (by rfl) T.g__law_keys T.F__law_keys.kp T.b__law_keys .nil pass0 (pa_cons (pe_ix (ix_listK (K := K) rfl) (pv 1) pe_int (fun _ _ => rfl)) (pa_cons (pe_ix (ix_listK (K := K) rfl) (pv 1) pe_int (fun _ _ => rfl)) (pa_cons pe_int pa_nil)))))
  (pss_cons (ps_set (i := 5) sc_law.nd rfl (Or.inl rfl) (pe_make T.k_Keeper (ok_Keeper_init T) (hr.mono (by decide)) (by rfl) T.g_Keeper T.b_Keeper_init .nil pass0 (pa_cons (pe_make T.k_Book (ok_Book_init T) (hr.mono (by decide)) (by rfl) T.g_Book T.b_Book_init .nil pass0 (pa_cons (pe_callTy (call_listK (K := K) rfl) (by rfl) T.z_list (by decide +kernel) (pa_cons (pv 3) pa_nil)) pa_nil)) pa_nil)))
  (pss_cons (ps_if (PW.pt (pw_or (pt_cmpR op_notNN (pe_fldK (K := K) rfl (pv 5) rfl) pe_non (nomark _)) (pw_or1 (pt_not (pt_val (pe_call (ok__law_is_unknown T) (hr.mono (by decide)) (by rfl) T.g__law_is_unknown T.F__law_is_unknown.kp T.b__law_is_unknown .nil pass0 (pa_cons (pv 5) (pa_cons (pe_ix (ix_listK (K := K) rfl) (pv 4) pe_int (fun _ _ => rfl)) pa_nil))))))))
   (pss_one (ps_ret pe_bl))
   pss_nil)
  (pss_cons (ps_set (i := 6) sc_law.nd rfl (Or.inl rfl) (pe_lst pa_nil))
  (pss_cons (ps_set (i := 7) sc_law.nd rfl (Or.inl rfl) (pe_lst pa_nil))
  (pss_cons (ps_set (i := 8) sc_law.nd rfl (Or.inl rfl) (pe_call (ok__law_start T) (hr.mono (by decide)) (by rfl) T.g__law_start T.F__law_start.kp T.b__law_start .nil pass0 (pa_cons (pe_ix (ix_listK (K := K) rfl) (pv 1) pe_int (fun _ _ => rfl)) (pa_cons (pe_ix (ix_listK (K := K) rfl) (pv 1) pe_int (fun _ _ => rfl)) pa_nil))))
  (pss_cons (ps_for PassesOwn.never rfl (pi_range1 (by rfl) T.z_range (pa_cons (pe_op op_add pe_int (pe_op op_mod (pe_callTy call_intI (by rfl) T.z_int (by decide +kernel) (pa_cons (pe_ix (ix_listK (K := K) rfl) (pv 1) pe_int (fun _ _ => rfl)) pa_nil)) pe_int)) pa_nil)) (pg_name (i := 9) sc_law.nd rfl (Or.inl rfl))
   (pss_cons (ps_par (i := 10) (j := 11) rfl sc_law.nd rfl rfl (by decide) rfl rfl (pa_cons (pe_ix (ix_listK (K := K) rfl) (pv 1) (pe_op op_add pe_int (pe_op op_mul pe_int (pv 9))) (fun _ _ => rfl)) (pa_cons (pe_ix (ix_listK (K := K) rfl) (pv 1) (pe_op op_add pe_int (pe_op op_mul pe_int (pv 9))) (fun _ _ => rfl)) pa_nil)) (by rfl))
  (pss_cons (ps_set (i := 8) sc_law.nd rfl (Or.inl rfl) (pe_call (ok__law_after T) (hr.mono (by decide)) (by rfl) T.g__law_after T.F__law_after.kp T.b__law_after .nil pass0 (pa_cons (pv 8) (pa_cons (pv 11) pa_nil))))
  (pss_cons (ps_set (i := 12) sc_law.nd rfl (Or.inl rfl) (pe_tup (pa_cons (pe_ix (ix_listK (K := K) rfl) (pv 4) (pv 9) (fun _ _ => rfl)) (pa_cons (pe_ix (ix_listK (K := K) rfl) (pv 2) (pe_op op_mod (pe_callTy call_intI (by rfl) T.z_int (by decide +kernel) (pa_cons (pv 10) pa_nil)) (pe_callB (call_lenK (K := K) rfl) (by rfl) T.z_len (by decide +kernel) (pa_cons (pv 2) pa_nil))) (fun _ _ => rfl)) (pa_cons (pe_call (ok__law_cost T) (hr.mono (by decide)) (by rfl) T.g__law_cost T.F__law_cost.kp T.b__law_cost .nil pass0 (pa_cons (pe_op op_add (pv 11) (pv 10)) pa_nil)) pa_nil)))))
  (pss_cons (ps_set (i := 13) sc_law.nd rfl (Or.inl rfl) (pe_meth (pv 5) T.cl_Keeper T.me_Keeper_ask (ok_Keeper_ask T) (hr.mono (by decide)) T.b_Keeper_ask .nil pass0 (pa_cons (pv 12) (pa_cons (pv 8) pa_nil))))
  (pss_cons (ps_if (PW.pt (pw_or (pt_not (pt_val (pe_call (ok__law_is_answer T) (hr.mono (by decide)) (by rfl) T.g__law_is_answer T.F__law_is_answer.kp T.b__law_is_answer .nil pass0 (pa_cons (pv 13) (pa_cons (pv 3) (pa_cons (pv 6) (pa_cons (pe_lst pa_nil) (pa_cons (pv 12) (pa_cons (pv 8) pa_nil))))))))) (pw_or1 (pt_cmpR op_ne (pe_fldK (K := K) rfl (pv 5) rfl) (pv 8) (nomark _)))))
   (pss_one (ps_ret pe_bl))
   pss_nil)
  (pss_cons (ps_expr (pe_bmK (K := K) rfl PySem.F.plainAttrs_list PySem.F.slot_list_append PySem.F.type_list_append mt_append (pv 7) (pa_cons (pe_meth0 (pv 13) T.cl_Answer T.me_Answer_parts (ok_Answer_parts T) (hr.mono (by decide)) T.b_Answer_parts .nil pass0) pa_nil)))
  (pss_cons (ps_if (pt_val (pe_fldK (K := K) rfl (pv 13) rfl))
   (pss_one (ps_expr (pe_bmK (K := K) rfl PySem.F.plainAttrs_list PySem.F.slot_list_append PySem.F.type_list_append mt_append (pv 6) (pa_cons (pe_op (op_catAK (K := K) rfl) (pv 12) (pe_tup (pa_cons (pv 8) pa_nil))) pa_nil))))
   pss_nil)
  (pss_one (ps_if (pt_not (pt_val (pe_call (ok__law_is_unknown T) (hr.mono (by decide)) (by rfl) T.g__law_is_unknown T.F__law_is_unknown.kp T.b__law_is_unknown .nil pass0 (pa_cons (pv 5) (pa_cons (pe_ix (ix_listK (K := K) rfl) (pv 4) (pe_op op_add (pv 9) pe_int) (fun _ _ => rfl)) pa_nil)))))
   (pss_one (ps_ret pe_bl))
   pss_nil))))))))))
  (pss_cons (ps_for PassesOwn.never rfl (pi_range1 (by rfl) T.z_range (pa_cons (pe_callB (call_lenK (K := K) rfl) (by rfl) T.z_len (by decide +kernel) (pa_cons (pv 7) pa_nil)) pa_nil)) (pg_name (i := 9) sc_law.nd rfl (Or.inl rfl))
   (pss_cons (ps_set (i := 13) sc_law.nd rfl (Or.inl rfl) (pe_meth (pv 5) T.cl_Keeper T.me_Keeper_answer_of (ok_Keeper_answer_of T) (hr.mono (by decide)) T.b_Keeper_answer_of .nil passX (pa_cons (pe_ix (ix_listK (K := K) rfl) (pv 4) (pv 9) (fun _ _ => rfl)) pa_nil)))
  (pss_one (ps_if (PW.pt (pw_or (pt_cmpR op_isnotB (pe_meth (pv 5) T.cl_Keeper T.me_Keeper_knows (ok_Keeper_knows T) (hr.mono (by decide)) T.b_Keeper_knows .nil pass0 (pa_cons (pe_ix (ix_listK (K := K) rfl) (pv 4) (pv 9) (fun _ _ => rfl)) pa_nil)) pe_bl (nomark _)) (pw_or (pt_not (pt_val (pe_callB (call_isO (K := K) rfl T.io_Answer) (by rfl) T.z_isinstance (by decide +kernel) (pa_cons (pv 13) (pa_cons (pe_glob (v := .ref a.c_Answer) (by rfl) T.g_Answer rfl (by decide)) pa_nil))))) (pw_or1 (pt_cmpR (op_neDK (K := K) rfl hr.units) (pe_meth0 (pv 13) T.cl_Answer T.me_Answer_parts (ok_Answer_parts T) (hr.mono (by decide)) T.b_Answer_parts .nil pass0) (pe_ix (ix_listK (K := K) rfl) (pv 7) (pv 9) (fun _ _ => rfl)) (nomark _))))))
   (pss_one (ps_ret pe_bl))
   pss_nil))))
  (pss_one (ps_ret pe_bl))))))))))))), ?_⟩
    try dsimp only [cxOf, Cx.nox]
    walk_at "go"
    refine ⟨l, xs, 90, rfl, hS, hx, by decide, by decide, fun pn H1 ns hpn hE1 hA1 hnl hn9 => ?_⟩
    have hS1 : SqL K H1 pn (ns.map V.int) := .inl (.inl hA1)
    walk_at "go"
    refine ⟨pn, ns, rfl, hS1, hn9, by omega, fun pg gs H2 hpg hE2 hA2 hgs hg3 hg8 => ?_⟩
    have hG2 : SqL K H2 pg (gs.map V.str) := .inl (.inl hA2)
    have hS2 := ex_sqL hE2 hS1
    walk_at "go"
    refine ⟨pn, ns, 2, pg, gs, rfl, hS2, hn9, by decide, by omega, by omega, hG2, hgs, hg3, hg8, fun pL ls H3 hpL hE3 hA3 hL3 hok h1 h8 hnd => ?_⟩
    have hS3 := ex_sqL hE3 hS2
    have hG3 := ex_sqL hE3 hG2
    have hLl3 : SqL K H3 pL (ls.map lV) := .inl (.inl hA3)
    have n50 := hn9.at (Int.toNat 50) (show 50 < ns.length by omega)
    have n51 := hn9.at (Int.toNat 51) (show 51 < ns.length by omega)
    have n52 := hn9.at (Int.toNat 52) (show 52 < ns.length by omega)
    have n53 := hn9.at (Int.toNat 53) (show 53 < ns.length by omega)
    have n54 := hn9.at (Int.toNat 54) (show 54 < ns.length by omega)
    walk_at "go"
    refine ⟨_, _, _, rfl, n50.1, by omega, n51.1, by omega, by decide, by decide, fun pk ks H4 hpk hE4 hA4 hks hkl => ?_⟩
    have hK4 : SqL K H4 pk (ks.map V.str) := .inl (.inl hA4)
    have hS4 := ex_sqL hE4 hS3
    have hG4 := ex_sqL hE4 hG3
    have hLl4 := ex_sqL hE4 hLl3
    have hL4 := hL3.mono hE4
    clear hS hE1 hA1 hE2 hA2 hS1 hS2 hS3 hG2 hG3 hE3 hA3 hL3 hE4 hA4 hpn hpg hpL hpk hLl3
    walk_at "go"
    rename_i pl2 hpl2
    intro m dx hm hdx hne
    have hEa := Evl.Ex.new hpl2 (o := .lst (ls.map lV))
    have hl2 : (upd H4 pl2 (.lst (ls.map lV))) pl2 = some (.lst (ls.map lV)) := upd_same
    have hK5 := ex_sqL hEa hK4
    have hS5 := ex_sqL hEa hS4
    have hG5 := ex_sqL hEa hG4
    have hLl5 := ex_sqL hEa hLl4
    have hL5 := hL4.mono hEa
    clear hK4 hS4 hG4 hLl4 hL4 hpl2 hEa
    generalize upd H4 pl2 (.lst (ls.map lV)) = H5 at *
    have hEm := ex_made (C := a.c_Book) hm hdx hne
    have hl2m := hEm _ _ hl2
    have hm0 : upd (upd H5 dx (.own m)) m (.ins a.c_Book dx []) m = some (.ins a.c_Book dx []) := upd_same
    generalize upd (upd H5 dx (.own m)) m (.ins a.c_Book dx []) = Hm at *
    clear hdx hne
    refine ⟨m, dx, pl2, ls, rfl, hm0, .inl (.inl hl2m), hL5.mono hEm, hok, h1, h8, hnd, fun H6 eP hB => ⟨rfl, ?_⟩⟩
    have hE6 := eP.toEx hEm hm
    have hK6 := ex_sqL hE6 hK5
    have hS6 := ex_sqL hE6 hS5
    have hG6 := ex_sqL hE6 hG5
    have hLl6 := ex_sqL hE6 hLl5
    have hL6 := hL5.mono hE6
    clear hK5 hS5 hG5 hLl5 hL5 eP hl2m hm0 hEm hl2 hm hE6
    walk_at "go"
    intro kp dxk hk0 hdk hnek
    have hEk := ex_made (C := a.c_Keeper) hk0 hdk hnek
    have hk1 : upd (upd H6 dxk (.own kp)) kp (.ins a.c_Keeper dxk []) kp = some (.ins a.c_Keeper dxk []) := upd_same
    generalize upd (upd H6 dxk (.own kp)) kp (.ins a.c_Keeper dxk []) = Hk at *
    clear hdk hnek
    refine ⟨kp, dxk, m, sortN ls, rfl, hk1, hB.mono hEk, fun z ms H8 hzk hzb eP hfr hKp hml hst => ⟨rfl, ?_⟩⟩
    subst hzk
    have hE8 := eP.toEx hEk hk0
    have hK8 := ex_sqL hE8 hK6
    have hS8 := ex_sqL hE8 hS6
    have hG8 := ex_sqL hE8 hG6
    have hLl8 := ex_sqL hE8 hLl6
    have hL8 := hL6.mono hE8
    have hP0 := KpS.new hml hst hok
    clear hK6 hS6 hG6 hLl6 hL6 eP hfr hk1 hEk hk0 hE8 hB hml hst
    obtain ⟨dxp, hkp⟩ := id hKp.hk
    obtain ⟨k0, hk01, hk02, hk03⟩ := str_at (gs := ks) (i := 0) (by omega)
    walk_at "go"
    rw [decide_eq_true (p := oN none = V.non) rfl]
    walk_at "go"
    refine g_ixL hK8 hk03 ?_
    walk_at "go"
    refine ⟨z, ms, none, [], [], k0, rfl, hKp, (fun y => nomatch y), (fun y hy => nomatch hy), fun H9 hE9 => ?_⟩
    have hK9 := ex_sqL hE9 hK8
    have hS9 := ex_sqL hE9 hS8
    have hG9 := ex_sqL hE9 hG8
    have hLl9 := ex_sqL hE9 hLl8
    have hL9 := hL8.mono hE9
    have hKp9 := hKp.mono hE9
    clear hK8 hS8 hG8 hLl8 hL8 hKp hE9 hkp hk01 hk02 hk03
    walk_at "go"
    rename_i pq hpq pt hpt
    have hEq := Evl.Ex.new hpq (o := .lst [])
    have hEt := Evl.Ex.new hpt (o := .lst [])
    have hqt : pq ≠ pt := fun y => by rw [← y, upd_same] at hpt; cases hpt
    have hqM : pq ≠ z.pM := fun y => by have := hKp9.hM; rw [← y, hpq] at this; cases this
    have hpt9 : H9 pt = none := ex_free hEq hpt
    have htM : pt ≠ z.pM := fun y => by have := hKp9.hM; rw [← y, hpt9] at this; cases this
    have hne : ∀ {p : Addr} {vs : List V}, SqL K H9 p vs → (p ≠ pq ∧ p ≠ pt) ∨ ∀ H', SqL K H' p vs := fun {p vs} h => by
      rcases h with (h | ⟨o, h⟩) | h
      · exact .inl ⟨fun y => (by rw [y, hpq] at h; cases h), fun y => (by rw [y, hpt9] at h; cases h)⟩
      · exact .inl ⟨fun y => (by rw [y, hpq] at h; cases h), fun y => (by rw [y, hpt9] at h; cases h)⟩
      · exact .inr fun H' => .inr h
    have hHP : HP2 K (clsA a) a.c_Keeper (upd (upd H9 pq (.lst [])) pt (.lst [])) (upd (upd H9 pq (.lst [])) pt (.lst [])) z (Fs ms) pq pt ms none [] [] [] [] := HP2.start (hKp9.mono (hEq.trans hEt)) (by rw [upd_ne hqt]; exact upd_same) upd_same hqt hqM htM ((NSs.of_new hKp9.hms hpq).mono hKp9.hms (hEq.trans hEt)) ((NSs.of_new hKp9.hms hpt9).mono hKp9.hms (hEq.trans hEt))
    have hE0 := hEq.trans hEt
    have hKS : ∀ {p : Addr} {vs : List V}, SqL K H9 p vs → ∀ {H' : Hp} {ms2 : List MRec} {mo2 : Option Int} {as2 : List (Addr × ARec)} {lq lt : List V}, HP2 K (clsA a) a.c_Keeper (upd (upd H9 pq (.lst [])) pt (.lst [])) H' z (Fs ms) pq pt ms2 mo2 as2 [] lq lt → SqL K H' p vs := fun {p vs} h {H' ms2 mo2 as2 lq lt} hP => by
      rcases hne h with ⟨k1, k2⟩ | k
      · exact hP.sqL (ex_sqL hE0 h) k1 k2
      · exact k H'
    have hLS : ∀ {H' : Hp} {ms2 : List MRec} {mo2 : Option Int} {as2 : List (Addr × ARec)} {lq lt : List V}, HP2 K (clsA a) a.c_Keeper (upd (upd H9 pq (.lst [])) pt (.lst [])) H' z (Fs ms) pq pt ms2 mo2 as2 [] lq lt → LmsAt K H' ls := fun {H' ms2 mo2 as2 lq lt} hP => hP.lms (hL9.mono hE0)
    have hS10 := ex_sqL hE0 hS9
    clear hEq hEt hpt hpq hpt9 hqM htM hne
    generalize upd (upd H9 pq (.lst [])) pt (.lst []) = H10 at *
    walk_at "go"
    refine ⟨_, _, rfl, n52.1, by omega, n53.1, by omega, fun mo hmo0 hmo1 => ?_⟩
    clear hS10
    have hS10 := ex_sqL hE0 hS9
    have h54 : 0 ≤ ns.getD (Int.toNat 54) 0 % 14 ∧ ns.getD (Int.toNat 54) 0 % 14 < 14 := by omega
    walk_at "go"
    have hnm : (1 + ns.getD (Int.toNat 54) 0 % 14).toNat ≤ 14 := by omega
    generalize (1 + ns.getD (Int.toNat 54) 0 % 14).toNat = nn at *
    clear h54 n50 n51 n52 n53 n54 hS10
    refine l_it walk_range (fun i σ' H' => ∃ (ms2 : List MRec) (as ts : List (Addr × ARec)) (qs : List (Addr × Q4)) (mo : Int) (mo' : Option Int) (v9 v10 v11 v12 v13 : Option V), σ' = [some (.ref l), some (.ref pn), some (.ref pg), some (.ref pL), some (.ref pk), some (.ref z.kp), some (.ref pq), some (.ref pt), some (.int mo), v9, v10, v11, v12, v13] ∧ HP2 K (clsA a) a.c_Keeper H10 H' z (Fs ms) pq pt ms2 mo' as [] (qs.map qV) (ts.map fun x => V.ref x.1) ∧ QsAt K H' qs ∧ TldAt K H' ts ∧ LI ls ks i ms2 as ts qs mo mo') ⟨ms, [], [], [], mo, none, none, none, none, none, none, rfl, hHP, (fun _ y => nomatch y), (fun _ y => nomatch y), LI.start hP0 hok hmo0 hmo1⟩ (fun i σ' H' hi hP => trivial) (fun i x σ' H2b H2 hi hP hY => ?_) (fun σ' H2 hP => ?_)
    · obtain ⟨ms2, as, ts, qs, mo, mo', v9, v10, v11, v12, v13, rfl, hH2, hQ2, hT2, hI⟩ := hP
      obtain ⟨rfl, rfl⟩ := hY
      rw [show ((fun i : Nat => V.int (0 + (i : Int))) i) = V.int (i : Nat) from congrArg V.int (Int.zero_add _)]
      have hS2 := hKS hS9 hH2
      have hK2 := hKS hK9 hH2
      have hG2 := hKS hG9 hH2
      have a1 := hn9.at (60 + 2 * (i : Int)).toNat (by omega)
      have a2 := hn9.at (61 + 2 * (i : Int)).toNat (by omega)
      obtain ⟨ki, hki1, hki2, hki3⟩ := str_at (gs := ks) (i := i) (by omega)
      obtain ⟨kj, hkj1, hkj2, hkj3⟩ := str_at (gs := ks) (i := i + 1) (by omega)
      walk_at "go"
      refine ⟨mo, _, rfl, a2.1, by omega, hI.m0, hI.m1, fun t H3 hE3 ht0 ht1 => ?_⟩
      have hH3 := hH2.mono hE3
      have hQ3 := hQ2.mono hE3
      have hT3 := hT2.tr fun _ _ y => ex_sqT hE3 y
      have hS3 := hKS hS9 hH3
      have hK3 := hKS hK9 hH3
      have hG3 := hKS hG9 hH3
      obtain ⟨dk3, hkp3⟩ := id hH3.hK.hk
      clear hH2 hQ2 hT2 hS2 hK2 hG2 hE3
      obtain ⟨gi, hgi2, hgi3⟩ := str_mod (gs := gs) (by omega) (ns.getD (60 + 2 * (i : Int)).toNat 0)
      have hlg : (gs.map V.str).length = gs.length := List.length_map ..
      walk_at "go"
      refine g_ixL hK3 hki3 ?_
      walk_at "go"
      rw [hlg]
      refine g_ixL hG3 hgi3 ?_
      walk_at "go"
      refine ⟨_, rfl, by omega, by omega, fun c hc0 hc1 => ?_⟩
      walk_at "go"
      rename_i pr hpr
      have hEr := Evl.Ex.new hpr (o := .tup [V.str ki, V.str gi, V.int c])
      have hR4 : SqT K (upd H3 pr (.tup [V.str ki, V.str gi, V.int c])) pr [V.str ki, V.str gi, V.int c] := .inl (.inl upd_same)
      have hH4 := hH3.mono hEr
      have hQ4 := hQ3.mono hEr
      have hT4 := hT3.tr fun _ _ y => ex_sqT hEr y
      clear hH3 hQ3 hT3 hS3 hK3 hG3 hEr hpr hkp3
      generalize upd H3 pr (.tup [V.str ki, V.str gi, V.int c]) = H4 at *
      refine ⟨z, ms2, mo', as, [], pr, ki, gi, c, t, rfl, hH4.hK, hR4, hks.2 ki hki2, hgs.2 gi hgi2, by omega, by omega, by have := hI.m0; omega, ht1, fun m hm => by have := hI.hmo m hm; omega, hI.fresh hks.1 hki1, by have := hI.len (by omega); omega, hI.ready hok hks.1 hki1 (by omega), by rw [hI.hS.len]; exact h1, by rw [hI.hS.len]; exact h8, fun E ma dd H5 hE5 hB hAn hK5 hN5 => ?_⟩
      have hlk : lackK ms2 gi c t = lackOf ls (qs.map (·.2)) [] gi c t := hI.hS.lack hok ht0
      rw [hlk] at hAn hK5
      have hsn := hI.hS.soon hok (hI.sum (by omega)) (by omega) (by omega) ht0 hB
      have hpa := (hI.hS.later hok ht0).past
      have hsu := hI.sum (by omega)
      have hbx := hH4.hK.box
      have hQ5 : QsAt K H5 qs := fun x hx => hE5.sqT hbx (hQ4 x hx)
      have hT5 := hT4.tr fun _ _ y => hE5.sqT hbx y
      have hR5 := hE5.sqT hbx hR4
      have hH5 := hH4.step hE5 hK5 (by split; exact letK_m; rfl) (by split; exact letK_Fs; rfl) hN5
      clear hH4 hQ4 hT4 hR4 hE5 hB hK5 hN5 hlk hbx
      have hLl5 := hKS hLl9 hH5
      have hql := hI.hql
      walk_at "go"
      rename_i pv hpv
      have hEv := Evl.Ex.new hpv (o := .lst [])
      have hH6 := hH5.mono hEv
      have hQ6 := hQ5.mono hEv
      have hT6 := hT5.tr fun _ _ y => ex_sqT hEv y
      have hR6 := ex_sqT hEv hR5
      have hAn6 := hAn.mono hEv
      have hv6 : SqL K (upd H5 pv (.lst [])) pv (([] : List Str).map V.str) := .inl (.inl upd_same)
      clear hH5 hQ5 hT5 hR5 hAn hEv hpv hLl5
      generalize upd H5 pv (.lst []) = H6 at *
      refine ⟨ma, pL, pq, pv, pr, ls, qs, [], ki, gi, c, t, E, rfl, hAn6, isKey_ok (hks.2 ki hki2), isKey_len (hks.2 ki hki2), hKS hLl9 hH6, hLS hH6, hok, h8, .inl (.inl hH6.hq), hQ6, by omega, hv6, by decide, hR6, hpa, hsu, by omega, hc1, hsn, fun H7 hE7 => ?_⟩
      have hI2 := fun p r => hI.step (E := E) (g := gi) hok h8 hki1 ht0 ht1 (by omega : 0 ≤ c) hc1 dd p r
      have hH7 := hH6.mono hE7
      have hQ7 := hQ6.mono hE7
      have hT7 := hT6.tr fun _ _ y => ex_sqT hE7 y
      have hR7 := ex_sqT hE7 hR6
      have hAn7 := hAn6.mono hE7
      have htl : ts.length ≤ 14 := by
        have e1 := congrArg List.length hI.hta
        rw [List.length_map, List.length_map, hI.len (by omega)] at e1
        omega
      clear hH6 hQ6 hT6 hR6 hAn6 hv6 hE7 hsn hpa hsu hI
      generalize lackOf ls (qs.map (·.2)) [] gi c t = zs at *
      generalize (if zs = [] then letK ms2 ki gi c t else ms2) = msn at *
      obtain ⟨dk7, hkp7⟩ := id hH7.hK.hk
      walk_at "go"
      show rNe (.int t) (.int t) H7 _
      walk_at "go"
      refine w_ndec (fun y => absurd rfl y) (fun _ => ?_)
      obtain ⟨dxa, pna, hma, hZ7⟩ := id hAn7
      have ht7 := hH7.ht
      walk_at "go"
      refine ⟨ma, ki, t, zs, E, rfl, hAn7, fun pp pz H8 hE8 hP8 hZ8 => ?_⟩
      have hH8 := hH7.mono hE8
      have hQ8 := hQ7.mono hE8
      have hR8 := ex_sqT hE8 hR7
      have hma8 := hE8 _ _ hma
      have ht8 := hH8.ht
      have hT8 : TldAt K H8 (ts ++ [(pp, ⟨ki, gi, c, t, zs, E⟩)]) := fun x hx => by
        rcases List.mem_append.mp hx with hx | hx
        · exact (hT7.tr fun _ _ y => ex_sqT hE8 y) x hx
        · rw [List.mem_singleton.mp hx]
          exact ⟨pz, hP8, hZ8⟩
      have hIp := hI2 pp
      clear hH7 hQ7 hT7 hR7 hAn7 hma hE8 hZ7 hP8 hZ8 hI2 hkp7 ht7
      walk_at "go"
      have hma9 : (upd H8 pt (.lst (ts.map (fun x => V.ref x.1) ++ [V.ref pp]))) ma = some (.ins a.c_Answer dxa (flAn ki t pna E (decide (zs.length = 0)))) := by
        rw [upd_ne (fun y => by rw [y, ht8] at hma8; cases hma8)]
        exact hma8
      have hQ9 : QsAt K (upd H8 pt (.lst (ts.map (fun x => V.ref x.1) ++ [V.ref pp]))) qs := fun x hx => sqT_upd ht8 (hQ8 x hx)
      have hT9 : TldAt K (upd H8 pt (.lst (ts.map (fun x => V.ref x.1) ++ [V.ref pp]))) (ts ++ [(pp, ⟨ki, gi, c, t, zs, E⟩)]) := hT8.tr fun _ _ y => sqT_upd ht8 y
      have hR9 : SqT K (upd H8 pt (.lst (ts.map (fun x => V.ref x.1) ++ [V.ref pp]))) pr [V.str ki, V.str gi, V.int c] := sqT_upd ht8 hR8
      have hH9 := hH8.putT (lt' := ts.map (fun x => V.ref x.1) ++ [V.ref pp])
      have eT : ts.map (fun x => V.ref x.1) ++ [V.ref pp] = (ts ++ [(pp, (⟨ki, gi, c, t, zs, E⟩ : ARec))]).map fun x => V.ref x.1 := by rw [List.map_append]; rfl
      generalize (upd H8 pt (.lst (ts.map (fun x => V.ref x.1) ++ [V.ref pp]))) = H9 at *
      rw [eT] at hH9
      clear hH8 hQ8 hT8 hR8 hma8 ht8 eT
      have hq9 := hH9.hq
      refine g_fld1 hma9 hclA nA5 rfl ?_
      walk_at "go"
      refine w_thnB (fun σ' H' => ∃ r : Addr, σ' = [some (.ref l), some (.ref pn), some (.ref pg), some (.ref pL), some (.ref pk), some (.ref z.kp), some (.ref pq), some (.ref pt), some (.int t), some (.int (i : Nat)), some (.int (ns.getD (60 + 2 * (i : Int)).toNat 0)), some (.int (ns.getD (61 + 2 * (i : Int)).toNat 0)), some (.ref pr), some (.ref ma)] ∧ HP2 K (clsA a) a.c_Keeper H10 H' z (Fs ms) pq pt msn (some t) (as ++ [(dd, ⟨ki, gi, c, t, zs, E⟩)]) [] ((if zs = [] then qs ++ [(r, (ki, gi, c, t))] else qs).map qV) ((ts ++ [(pp, (⟨ki, gi, c, t, zs, E⟩ : ARec))]).map fun x => V.ref x.1) ∧ QsAt K H' (if zs = [] then qs ++ [(r, (ki, gi, c, t))] else qs) ∧ TldAt K H' (ts ++ [(pp, ⟨ki, gi, c, t, zs, E⟩)])) (fun hb D' hD' => ?_) (fun hb => ?_) (fun σ' H11 hW => ?_)
      · have hz0 : zs = [] := List.eq_nil_of_length_eq_zero (of_decide_eq_true hb)
        walk_at "go"
        rename_i p1 hp1 r Hc hEc hRc
        have hEc2 := (Evl.Ex.new hp1).trans hEc
        have hHc := hH9.mono hEc2
        have hqc := hHc.hq
        refine hD' _ _ ⟨r, rfl, ?_, ?_, ?_⟩
        · rw [if_pos hz0, List.map_append]
          exact hHc.putQ
        · rw [if_pos hz0]
          intro x hx
          rcases List.mem_append.mp hx with hx | hx
          · exact sqT_upd hqc (ex_sqT hEc2 (hQ9 x hx))
          · rw [List.mem_singleton.mp hx]
            exact sqT_upd hqc hRc
        · exact hT9.tr fun _ _ y => sqT_upd hqc (ex_sqT hEc2 y)
      · have hz0 : zs ≠ [] := fun y => by rw [y] at hb; exact absurd hb (by decide)
        exact ⟨0, rfl, by rw [if_neg hz0]; exact hH9, by rw [if_neg hz0]; exact hQ9, hT9⟩
      obtain ⟨r, rfl, hHw, hQw, hTw⟩ := hW
      have hIr := hIp r
      have hKw := hKS hK9 hHw
      walk_at "go"
      refine g_ixL hKw (show atI (ks.map V.str) ((i : Int) + 1) = some (.str kj) from hkj3) ?_
      walk_at "go"
      refine ⟨z, msn, some t, _, [], kj, rfl, hHw.hK, hIr.fresh hks.1 hkj1, fun x hx => by have := (hIr.hlk x hx).1; omega, fun H12 hE12 => ?_⟩
      walk_at "go"
      exact ⟨msn, _, _, _, t, some t, _, _, _, _, _, rfl, hHw.mono hE12, fun x hx => ex_sqT hE12 (hQw x hx), hTw.tr fun _ _ y => ex_sqT hE12 y, hIr⟩
    · obtain ⟨ms2, as, ts, qs, mo, mo', v9, v10, v11, v12, v13, rfl, hH2, hQ2, hT2, hI⟩ := hP
      have ht2 := hH2.ht
      have hal := hI.len (by omega)
      have htl : ts.length = nn := by
        have e1 := congrArg List.length hI.hta
        rw [List.length_map, List.length_map, hal] at e1
        exact e1
      have hml : (ts.map fun x : Addr × ARec => V.ref x.1).length = nn := by rw [List.length_map]; exact htl
      walk_at "go"
      rw [hml]
      rw [Int.toNat_natCast]
      have hnk : (as.map fun x => x.2.k).Nodup := by rw [hI.hk]; exact (List.take_sublist nn ks).nodup hks.1
      have hK2 := hKS hK9 hH2
      refine l_it walk_range (fun i σ' H' => ∃ v9 v13 : Option V, σ' = [some (.ref l), some (.ref pn), some (.ref pg), some (.ref pL), some (.ref pk), some (.ref z.kp), some (.ref pq), some (.ref pt), some (.int mo), v9, v10, v11, v12, v13] ∧ Ex H2 H') ⟨_, _, rfl, Evl.Ex.refl _⟩ (fun i σ' H' hi hP => trivial) (fun i x σ' H3b H3 hi hP hY => ?_) (fun σ' H3 hP => ?_)
      · obtain ⟨w9, w13, rfl, hE3⟩ := hP
        obtain ⟨rfl, rfl⟩ := hY
        rw [show ((fun i : Nat => V.int (0 + (i : Int))) i) = V.int (i : Nat) from congrArg V.int (Int.zero_add _)]
        obtain ⟨ki, hki1, hki2, hki3⟩ := str_at (gs := ks) (i := i) (by omega)
        have hK3 := ex_sqL hE3 hK2
        have hKp3 := hH2.hK.mono hE3
        obtain ⟨xt, hxt⟩ : ∃ xt, ts[i]? = some xt := ⟨_, List.getElem?_eq_getElem (by omega)⟩
        obtain ⟨xa, hxa⟩ : ∃ xa, as[i]? = some xa := ⟨_, List.getElem?_eq_getElem (by omega)⟩
        have hxe : xt.2 = xa.2 := by
          have e1 := congrArg (fun l : List ARec => l[i]?) hI.hta
          have e1 : (ts.map (·.2))[i]? = (as.map (·.2))[i]? := e1
          rw [List.getElem?_map, List.getElem?_map, hxt, hxa] at e1
          exact Option.some.inj e1
        have hxk : xa.2.k = ki := by
          have e1 := congrArg (fun l : List Str => l[i]?) hI.hk
          have e1 : (as.map fun x => x.2.k)[i]? = (ks.take nn)[i]? := e1
          rw [List.getElem?_map, hxa, List.getElem?_take_of_lt hi, hki1] at e1
          exact Option.some.inj e1
        have hxm := List.mem_of_getElem? hxa
        have hkm : ki ∈ (as.map fun x => x.2.k) := List.mem_map.mpr ⟨xa, hxm, hxk⟩
        obtain ⟨dk3, hkp3⟩ := id hKp3.hk
        walk_at "go"
        refine g_ixL hK3 hki3 ?_
        walk_at "go"
        refine ⟨z, ms2, mo', as, [], ki, rfl, hKp3, fun x hx => by have := (hI.hlk x hx).1; omega, .inl ⟨hkm, fun x m H4 hE4 hx hxk2 hAn => ?_⟩⟩
        have hxx : x = xa := inj_of_nodup (nm := fun x : Addr × ARec => x.2.k) hnk x hx xa hxm (hxk2.trans hxk.symm)
        subst hxx
        have hK4 := ex_sqL hE4 hK3
        have hKp4 := hKp3.mono hE4
        have hkp4 := hE4 _ _ hkp3
        obtain ⟨dxa, pna, hma, hZ4⟩ := id hAn
        walk_at "go"
        refine g_ixL hK4 hki3 ?_
        walk_at "go"
        refine ⟨z, ms2, mo', as, [], ki, rfl, hKp4, ?_⟩
        rw [decide_eq_true hkm]
        walk_at "go"
        refine g_isBl ?_
        rw [show (if true = true then !decide (true = true) else decide (true = true)) = false from rfl]
        walk_at "go"
        refine ⟨m, ki, x.2.t, x.2.lk, x.2.e, rfl, hAn, fun pp pz H5 hE5 hP5 hZ5 => ?_⟩
        have hE25 := (hE3.trans hE4).trans hE5
        have ht5 : SqL K H5 pt (ts.map fun x => V.ref x.1) := .inl (.inl (hE25 _ _ ht2))
        obtain ⟨pz2, hP2, hZ2⟩ := hT2 xt (List.mem_of_getElem? hxt)
        rw [hxe, hxk] at hP2
        rw [hxe] at hZ2
        have hP25 := ex_sqT hE25 hP2
        have hZ25 := ex_sqT hE25 hZ2
        walk_at "go"
        refine g_ixL ht5 (v := .ref xt.1) (atI_nat (by rw [List.getElem?_map, hxt]; rfl)) ?_
        refine g_neSame (ansD ki x.2.t x.2.lk x.2.e) (ansD_dp hP5 hZ5) (ansD_dp hP25 hZ25) (ansD_shaped (isKey_ok (hks.2 ki hki2)) (hI.hlk x hx).2) ?_
        walk_at "go"
        exact ⟨_, _, rfl, hE25⟩
      · obtain ⟨w9, w13, rfl, hE3⟩ := hP
        walk_at "go"
        exact q _
end
end Lw
open PySem PySem.W PySem.Calls PyProof.Rows
set_option maxRecDepth 100000 in
set_option maxHeartbeats 0 in
theorem PySem.Challenge.cw_limitweave_k25_answers_holds : PySem.Challenge.rw_limitweave_k25_answers.Holds := by
  w_on; o_law
  refine HandSHeadRun.head_any (r := OpenLaw.row PySem.Challenge.rw_limitweave_k25_answers) (q := view (OpenLaw.row PySem.Challenge.rw_limitweave_k25_answers).prog [68]) (H := Lw.hkL) (ob := Lw.obL) (M := 30000) (loose := Lw.hdNm) (d := HandSHeadRun.topDef (OpenLaw.row PySem.Challenge.rw_limitweave_k25_answers).prog 68) (kwd := []) Lw.obL_eq
    (by kernel_rfl) (fun s => by kernel_rfl) Lw.run_all (by kernel_rfl) (by kernel_rfl) (by kernel_rfl) (by rfl) (by first | assumption | decide +kernel) (by decide +kernel) ⟨rfl, rfl, rfl, rfl, rfl, by decide +kernel⟩ ?hw ?hc
  case hw => w_witness2
  case hc =>
    refine L2.walk_ofE (l := PySem.Challenge.rw_limitweave_k25_answers) (n := 63) (k := 7) (x := "_law_script") (CX := L2.CX0) rfl (by decide) (by kernel_rfl) ⟨rfl, by decide, by decide⟩ ?F (fun _ _ _ _ z => z)
    intro w mg fa h Y G hmg0
    obtain ⟨K, KX, c⟩ := Y
    have hmg : mg ("law" : PySem.Str) = some (.ref fa) := by
      have e : (HandSHeadRun.topDef (OpenLaw.row PySem.Challenge.rw_limitweave_k25_answers).prog 68).name = ("law" : PySem.Str) := by kernel_rfl
      rw [← e]
      exact hmg0
    obtain ⟨a, ha, hb, T⟩ := Lw.txtH KX G c
    have e := hmg.symm.trans T.g_law
    cases e
    exact ⟨K, a.d_law, Lw.sp_law K, KX, hb, fun H a ns hl _ hS => ⟨a, ns, rfl, hS, hl, fun _ => rfl⟩, fun base _ _ => Lw.ok_law T⟩
