import PyProof.Rows.All
import Wide.All
import OpenK.AllK
import Wide.FinOn
import KE.GoesEnum
import KE.GoesMore
import HandS.ForMost
import HandS.Evl
import HandS.FStr
import HandS.StrMore
import HandS.StrSplit
import HandS.Walk
import HandS.RaiseMore
import HandS.IsInst
import HandS.Dict
import HandS.ForSpec
import HandS.Exc
import HandS.ExcField
import HandS.ExcIs
import KE.KExcIs
import KE.RegKIsAll
import KE.KExcSuper
import HandS.RaiseFrom
import HandS.SuiteRaise
import HandS.Replace
import HandS.ReplaceLit
import HandS.TryMany
import HandS.Strs
import HandS.Style
import HandS.SortInts
import HandS.TupAny
import KE.SortData
import KE.KItemsList
import KE.KDictList
import HandS.DictTup
import HandS.ListItems
import HandS.DictComp
import HandS.Flow
import HandS.SetFor
import KE.SortKeyHeap
import HandS.SortKw
import HandS.WrittenGet
import HandS.Zip
import HandS.More
import PyProof.Rows.Chain
import HandS.Deep
import HandS.SortRule
import HandS.SortOrd
import PyProof.Rows.SortKeyStr
import HandS.Property
import PyProof.P3In
import HandS.HeadEnd
import PyProof.ReprRoads
import PySem.Challenge.RW_limitweave_k40_bodies
set_option Elab.async false
set_option linter.all false
set_option maxRecDepth 100000
set_option maxHeartbeats 4000000
namespace PySem
end PySem
namespace L2
open PySem PySem.Spec PyProof.Rows
section
variable {X : Cx} {nm f : Str} {C fI : Addr}
/-- X(e), X an own error with one field f -/
def tMkErr (C : Addr) (f : Str) (ta : TA) : St → Hp → XK → Prop := fun σ H Q => ta σ H fun vs H1 => ∃ v, vs = [v] ∧ ∀ d, H1 d = none → Q (.ref C) (some d) (upd H1 d (.xd [(f, v)]))
/-- raise X(e), where nothing is handled: for a def whose errors have no context (L2N), and for any -/
def tRaise (C : Addr) (f : Str) (W : WX) (ta : TA) : TS := fun _ σ H => tMkErr C f ta σ H fun cls d H' => W cls d σ H'
/-- isinstance(e, c), e the exception that the suite holds, with a dict of its own -/
def rIsED (K : PySem.W.Frag) (D a : Addr) (cls : Value) (d : Option Addr) : List V → Hp → VK → Prop := fun xs H Q => ∃ (c : V) (cv : Value) (b : Bool) (dd : Addr) (fs : List (Str × V)), xs = [.ref a, c] ∧ cls = .ref D ∧ (∀ u, RelV c u → u = cv) ∧ PySem.W.kitOne K (.ref D) cv = some b ∧ d = some dd ∧ H dd = some (.xd fs) ∧ Q (.bl b) H
end
end L2
namespace PySem
open Builtin Builtin.Str
/-- x.replace(y, z, 1) where y stands in x -/
theorem gives_str_replace1 (x y z : Str) (t u v q : Tok) (h0 : (u == 0 || v == 0) = false) (huv : (u == v) = false) (hyz : (y == z) = false) (hc : ((occurrences x y 0 x.length 1).isEmpty || (y.length == 0 && z.length == 0)) = false)
    (hl : tooLong (x.length + (occurrences x y 0 x.length 1).length * z.length) = false) :
    Gives («str.replace» ⟨[.str x t, .str y u, .str z v, .int 1 q], []⟩) (.str (glued z (partsBetween x (occurrences x y 0 x.length 1) y.length))) := by
  show Gives (do
      let limit ← countLimit "str.replace" (some (.int 1 q)) (x.length + 1)
      let cuts := occurrences x y 0 x.length limit
      if (cuts.isEmpty || (y.length == 0 && z.length == 0)) = true then (do rule "str.replace.nothing"; ret (.str x t)) else
          (do let same ← isSame (.str y u) (.str z v)
              if same = true then (do rule "str.replace.old-is-new"; ret (.str x t)) else
              if tooLong (x.length + cuts.length * z.length) = true then unsupported "str.replace:memory" else
              retStr (glued z (partsBetween x cuts y.length)))) _
  rw [countLimit_int "str.replace" 1 q (x.length + 1) (by decide)]
  show Gives (if ((occurrences x y 0 x.length 1).isEmpty || (y.length == 0 && z.length == 0)) = true then (do rule "str.replace.nothing"; ret (.str x t)) else
          (do let same ← isSame (.str y u) (.str z v)
              if same = true then (do rule "str.replace.old-is-new"; ret (.str x t)) else
              if tooLong (x.length + (occurrences x y 0 x.length 1).length * z.length) = true then unsupported "str.replace:memory" else
              retStr (glued z (partsBetween x (occurrences x y 0 x.length 1) y.length)))) _
  rw [hc, isSame_str_other y z u v h0 huv hyz, hl]
  exact .of_eq rfl
end PySem
namespace L2
open PySem PySem.Spec PyProof.Rows
/-- o.replace(y, z, 1), y written, in the text -/
def rRepl1 (y z : Str) : V → Hp → VK → Prop := fun v H1 Q => ∃ x : Str, v = .str x ∧ x.length ≤ 100000 ∧ y.length ≤ 10 ∧ 0 < y.length ∧ z.length ≤ 10 ∧ Builtin.Str.occurrences x y 0 x.length 1 ≠ [] ∧ (Builtin.Str.glued z (Builtin.Str.partsBetween x (Builtin.Str.occurrences x y 0 x.length 1) y.length)).length ≤ sizeLine ∧ Q (.str (Builtin.Str.glued z (Builtin.Str.partsBetween x (Builtin.Str.occurrences x y 0 x.length 1) y.length))) H1
def tRepl1 (to : TE) (y z : Str) : TE := fun σ H Q => to σ H fun v H1 => rRepl1 y z v H1 Q
section
variable {X : Cx} {o : Expr} {to : TE} {y z : Str} {j k m : Nat} {c0 c1 c2 apos pos : Pos}
theorem pet_repl1 (ho : PE X o to) (hyz : (y == z) = false := by decide)
    (hst : starEach [.Constant (.str y) j c0, .Constant (.str z) k c1, .Constant (.int 1) m c2] X.env = [(false, eval (.Constant (.str y) j c0) X.env), (false, eval (.Constant (.str z) k c1) X.env), (false, eval (.Constant (.int 1) m c2) X.env)] := by rfl)
    (hbase : attributeBase o "replace" X.env (eval o X.env) = eval o X.env := by rfl) (hline : (apos.endLine == pos.line) = true := by rfl) :
    PET X (.Call (.Attribute o "replace" apos) [.Constant (.str y) j c0, .Constant (.str z) k c1, .Constant (.int 1) m c2] [] pos) (tRepl1 to y z) := by
  intro pins s σ H Q h0 I h
  refine PySem.wpAny_Call_method_lateS hbase (by rw [hst]; rfl) hline ?_
  rw [hst]
  refine wpAny_mono (PySem.wpAny_toks (ho.run pins s σ H _ I h)) (fun v s1 q => ?_) fun _ _ z => z.2
  obtain ⟨hk, v', H1, I1, r1, x, e1, hx, hy, hy0, hz, hoc, hfit, q⟩ := q
  subst e1
  obtain ⟨tx, e2⟩ := r1
  subst e2
  refine ⟨"str", _, PySem.F.plainAttrs_str, PySem.F.slot_str_replace, PySem.F.type_str_replace, typeIs_str _ _ _, (fun _ e => nomatch e), Calls.callWith_builtin rfl (Calls.evalArgs_plain (Calls.spliced_cons ?_))⟩
  refine Calls.Constant_str (k := j) (pos := c0) (Calls.spliced_cons (Calls.Constant_str (k := k) (pos := c1) (Calls.spliced_cons ?_)))
  refine wpAny_Constant_int (k := m) (pos := c2) (Calls.spliced_nil ?_)
  have hl : Builtin.Str.tooLong (x.length + (Builtin.Str.occurrences x y 0 x.length 1).length * z.length) = false := by
    have h1 := StrLaws.occ_length_le x y 0 x.length 1
    have h2 : (Builtin.Str.occurrences x y 0 x.length 1).length * z.length ≤ 1 * 10 := Nat.mul_le_mul h1 hz
    unfold Builtin.Str.tooLong
    refine decide_eq_false ?_
    have : 2000000 ≤ sizeLine := by decide
    omega
  refine call_gives F.slot_str_replace (typeIs_str _ _ _) F.entry_str_replace (F.args_str_replace_4 _ _ _ _)
    (gives_str_replace1 x y z tx s1.toks (s1.toks + 1) _ (by rw [Bool.or_eq_false_iff]; exact ⟨beq_false_of_ne (show s1.toks ≠ 0 by omega), beq_false_of_ne (show s1.toks + 1 ≠ 0 by omega)⟩) (beq_false_of_ne (show s1.toks ≠ s1.toks + 1 by omega)) hyz ?_ hl) ?_
  · have e1 : (Builtin.Str.occurrences x y 0 x.length 1).isEmpty = false := by
      cases h : Builtin.Str.occurrences x y 0 x.length 1 with
      | nil => exact absurd h hoc
      | cons a r => rfl
    have e2 : (y.length == 0) = false := by simp; omega
    rw [e1, e2]
    rfl
  · exact ⟨hfit, .str _, H1, I1.tok _, ⟨_, rfl⟩, q⟩
end
end L2
namespace L2
open PySem PySem.Spec PyProof.Rows
section
variable {X : Cx}
/-- behind a sum with a written text a token is out -/
theorem pa_addT {l : Expr} {t0 : TE} {es : List Expr} {ta : TA} {c : Str} {j : Nat} {c0 bpos : Pos} {r : R2} (ho : OpR X (binaryOp .Add) r) (hl : PE X l t0) (hr : PAT X es ta)
    (hs : starEach (.BinOp l .Add (.Constant (.str c) j c0) bpos :: es) X.env = (false, eval (.BinOp l .Add (.Constant (.str c) j c0) bpos) X.env) :: starEach es X.env := by rfl) :
    PA X (.BinOp l .Add (.Constant (.str c) j c0) bpos :: es) (tCons (tOp r t0 (tC (.str c))) ta) := by
  refine ⟨fun pos pins s σ H Q I h => ?_⟩
  rw [hs]
  show wpAny _ _ (spliced ((false, eval (.BinOp l .Add (.Constant (.str c) j c0) bpos) X.env) :: backTo pos (starEach es X.env))) _ _ s
  refine Calls.spliced_cons (wpAny_BinOp ?_)
  refine thn (hl.run pins s σ H _ I h) fun v s1 ⟨x, H1, I1, r1, q1⟩ => ?_
  refine Calls.Constant_str (k := j) (pos := c0) ?_
  refine wpAny_mono (PySem.wpAny_toks (ho pins { s1 with toks := s1.toks + 1 } σ H1 x (.str c) v (.str c s1.toks) _ (I1.tok (s1.toks + 1)) r1 ⟨_, rfl⟩ q1)) (fun v2 s2 q2 => ?_) fun _ _ z => z.2
  obtain ⟨hk, y, H2, I2, r2, q3⟩ := q2
  have hk2 : 1 ≤ s2.toks := by
    have : s1.toks + 1 ≤ s2.toks := hk
    omega
  exact thn (hr pos pins s2 σ H2 _ hk2 I2 q3) fun us s3 ⟨xs, H3, I3, r3, q4⟩ => ⟨y :: xs, H3, I3, .cons r2 r3, q4⟩
end
end L2
namespace Lw
open PySem PySem.Spec PyProof.Rows L2
open Evl (Ex)
/-! ### A0. pure steps by class search: one search walks as far as only unfoldings lead -/
class Wk (P : Prop) (R : outParam Prop) : Prop where
  out : R → P
class Wks (P : Prop) (R : outParam Prop) : Prop where
  out : R → P
class Wk1 (P : Prop) (R : outParam Prop) : Prop where
  out : R → P
instance (priority := 10) wks_stop {P : Prop} : Wks P P := ⟨fun h => h⟩
instance (priority := 100) wks_step {P Q R : Prop} [a : Wk P Q] [b : Wks Q R] : Wks P R := ⟨fun h => a.out (b.out h)⟩
instance wk1_step {P Q R : Prop} [a : Wk P Q] [b : Wks Q R] : Wk1 P R := ⟨fun h => a.out (b.out h)⟩
class NeN (m n : Nat) : Prop where
  out : m ≠ n
instance neN_zs {n : Nat} : NeN 0 (n + 1) := ⟨fun h => Nat.noConfusion h⟩
instance neN_sz {n : Nat} : NeN (n + 1) 0 := ⟨fun h => Nat.noConfusion h⟩
instance neN_ss {m n : Nat} [h : NeN m n] : NeN (m + 1) (n + 1) := ⟨fun e => h.out (Nat.succ.inj e)⟩
class IxN (N : List Str) (n : Nat) : Prop where
  out : n < N.length
instance ixN_z {x : Str} {N : List Str} : IxN (x :: N) 0 := ⟨Nat.succ_pos _⟩
instance ixN_s {x : Str} {N : List Str} {n : Nat} [h : IxN N n] : IxN (x :: N) (n + 1) := ⟨Nat.succ_lt_succ h.out⟩
class IxS (σ : L2.St) (n : Nat) : Prop where
  out : n < σ.length
instance ixS_set {σ : L2.St} {m n : Nat} {v : Option V} [h : IxS σ n] : IxS (σ.set m v) n := ⟨by rw [List.length_set]; exact h.out⟩
instance ixS_start {N : List Str} {vs : List V} {n : Nat} [h : IxN N n] : IxS (L2.start N vs) n := ⟨by
  have := h.out
  unfold L2.start
  simp only [List.length_append, List.length_map, List.length_replicate]
  omega⟩
instance ixS_z {x : Option V} {σ : List (Option V)} : IxS (x :: σ) 0 := ⟨Nat.succ_pos _⟩
instance ixS_s {x : Option V} {σ : List (Option V)} {n : Nat} [h : IxS σ n] : IxS (x :: σ) (n + 1) := ⟨Nat.succ_lt_succ h.out⟩
class LkV (vs : List V) (n : Nat) (v : outParam V) : Prop where
  out : vs[n]? = some v
instance lkV_z {v : V} {vs : List V} : LkV (v :: vs) 0 v := ⟨rfl⟩
instance lkV_s {x v : V} {vs : List V} {n : Nat} [h : LkV vs n v] : LkV (x :: vs) (n + 1) v := ⟨by rw [List.getElem?_cons_succ]; exact h.out⟩
class Lk (σ : L2.St) (n : Nat) (v : outParam V) : Prop where
  out : σ[n]? = some (some v)
instance lk_start {N : List Str} {vs : List V} {n : Nat} {v : V} [h : LkV vs n v] : Lk (L2.start N vs) n v := ⟨by
  have e := h.out
  unfold L2.start
  have hl : n < vs.length := (List.getElem?_eq_some_iff.mp e).1
  rw [List.getElem?_append_left (by rw [List.length_map]; exact hl), List.getElem?_map, e]
  rfl⟩
instance lk_z {v : V} {σ : List (Option V)} : Lk (some v :: σ) 0 v := ⟨rfl⟩
instance lk_s {x : Option V} {v : V} {σ : List (Option V)} {n : Nat} [h : Lk σ n v] : Lk (x :: σ) (n + 1) v := ⟨by rw [List.getElem?_cons_succ]; exact h.out⟩
instance (priority := 100) lk_skip {σ : L2.St} {m n : Nat} {x : Option V} {v : V} [a : NeN m n] [h : Lk σ n v] : Lk (σ.set m x) n v := ⟨by rw [List.getElem?_set_ne a.out]; exact h.out⟩
instance (priority := 1000) lk_set {σ : L2.St} {n : Nat} {v : V} [h : IxS σ n] : Lk (σ.set n (some v)) n v := ⟨by rw [List.getElem?_set_self h.out]⟩
/-! ### A. stepping through a reading, from the left: one lemma a combinator -/
section
variable {K : PySem.W.Frag} {σ : L2.St} {H : Hp} {D : Ends} {Q : VK} {QB : Bool → Hp → Prop} {te ta tb tc : TE} {tt tu : TT} {t u : TS} {g : TG} {v x y : V} {i j : Int} {b : Bool}
theorem g_seq (q : t { D with nx := u D } σ H) : tSeq t u D σ H := q
instance wk_g_seq : Wk (tSeq t u D σ H) (t { D with nx := u D } σ H) := ⟨fun q_ => g_seq q_⟩
theorem g_next (q : D.nx σ H) : tNext D σ H := q
instance wk_g_next : Wk (tNext D σ H) (D.nx σ H) := ⟨fun q_ => g_next q_⟩
theorem g_asg (q : te σ H (fun x H1 => g x σ H1 D.nx)) : tAsg te g D σ H := q
instance wk_g_asg : Wk (tAsg te g D σ H) (te σ H (fun x H1 => g x σ H1 D.nx)) := ⟨fun q_ => g_asg q_⟩
theorem g_name {n : Nat} {Qs : L2.St → Hp → Prop} (q : Qs (σ.set n (some v)) H) : gName n v σ H Qs := q
instance wk_g_name {n : Nat} {Qs : L2.St → Hp → Prop} : Wk (gName n v σ H Qs) (Qs (σ.set n (some v)) H) := ⟨fun q_ => g_name q_⟩
theorem g_ret (q : te σ H D.rt) : tRet te D σ H := q
instance wk_g_ret : Wk (tRet te D σ H) (te σ H D.rt) := ⟨fun q_ => g_ret q_⟩
theorem g_drop (q : te σ H fun _ H1 => D.nx σ H1) : tDrop te D σ H := q
instance wk_g_drop : Wk (tDrop te D σ H) (te σ H fun _ H1 => D.nx σ H1) := ⟨fun q_ => g_drop q_⟩
theorem g_ifS (q : tt σ H fun b H1 => if b = true then t D σ H1 else u D σ H1) : tIfS tt t u D σ H := q
instance wk_g_ifS : Wk (tIfS tt t u D σ H) (tt σ H fun b H1 => if b = true then t D σ H1 else u D σ H1) := ⟨fun q_ => g_ifS q_⟩
theorem g_var {n : Nat} (h : σ[n]? = some (some v)) (q : Q v H) : tVar n σ H Q := ⟨v, h, q⟩
instance wk_g_var {n : Nat} [h : Lk σ n v] : Wk (tVar n σ H Q) (Q v H) := ⟨fun q_ => g_var h.out q_⟩
theorem g_c (q : Q v H) : tC v σ H Q := q
instance wk_g_c : Wk (tC v σ H Q) (Q v H) := ⟨fun q_ => g_c q_⟩
theorem g_op {r : R2} (q : ta σ H fun x H1 => tb σ H1 fun y H2 => r x y H2 Q) : tOp r ta tb σ H Q := q
instance wk_g_op {r : R2} : Wk (tOp r ta tb σ H Q) (ta σ H fun x H1 => tb σ H1 fun y H2 => r x y H2 Q) := ⟨fun q_ => g_op q_⟩
theorem g_un {r : V → Hp → VK → Prop} (q : ta σ H fun x H1 => r x H1 Q) : tUn r ta σ H Q := q
instance wk_g_un {r : V → Hp → VK → Prop} : Wk (tUn r ta σ H Q) (ta σ H fun x H1 => r x H1 Q) := ⟨fun q_ => g_un q_⟩
theorem g_chain {r r' : R2} (q : ta σ H fun x H1 => tb σ H1 fun y H2 => r x y H2 fun z H3 => ∃ k, z = .bl k ∧ (if k = true then tc σ H3 fun w' H4 => r' y w' H4 Q else Q (.bl false) H3)) : tChain r r' ta tb tc σ H Q := q
instance wk_g_chain {r r' : R2} : Wk (tChain r r' ta tb tc σ H Q) (ta σ H fun x H1 => tb σ H1 fun y H2 => r x y H2 fun z H3 => ∃ k, z = .bl k ∧ (if k = true then tc σ H3 fun w' H4 => r' y w' H4 Q else Q (.bl false) H3)) := ⟨fun q_ => g_chain q_⟩
theorem g_rI0 {f : Int → Int → V} (q : Q (f i j) H) : rI0 f (.int i) (.int j) H Q := ⟨i, j, rfl, rfl, q⟩
instance wk_g_rI0 {f : Int → Int → V} : Wk (rI0 f (.int i) (.int j) H Q) (Q (f i j) H) := ⟨fun q_ => g_rI0 q_⟩
theorem g_rI {C : Int → Int → Prop} {f : Int → Int → V} (hc : C i j) (q : Q (f i j) H) : rI C f (.int i) (.int j) H Q := ⟨i, j, rfl, rfl, hc, q⟩
theorem g_rU {f : Int → V} (q : Q (f i) H) : rU f (.int i) H Q := ⟨i, rfl, q⟩
instance wk_g_rU {f : Int → V} : Wk (rU f (.int i) H Q) (Q (f i) H) := ⟨fun q_ => g_rU q_⟩
theorem g_ipI {f : Int → Int → Int} (q : Q (.int (f i j)) H) : ipI f (.int i) (.int j) H Q := ⟨i, j, rfl, rfl, q⟩
instance wk_g_ipI {f : Int → Int → Int} : Wk (ipI f (.int i) (.int j) H Q) (Q (.int (f i j)) H) := ⟨fun q_ => g_ipI q_⟩
theorem g_test (q : te σ H fun x H' => ∃ k, x = .bl k ∧ QB k H') : tTest te σ H QB := q
instance wk_g_test : Wk (tTest te σ H QB) (te σ H fun x H' => ∃ k, x = .bl k ∧ QB k H') := ⟨fun q_ => g_test q_⟩
theorem g_tB (q : te σ H fun x H' => ∃ k, x = .bl k ∧ QB k H') : tB te σ H QB := q
instance wk_g_tB : Wk (tB te σ H QB) (te σ H fun x H' => ∃ k, x = .bl k ∧ QB k H') := ⟨fun q_ => g_tB q_⟩
theorem g_bl {P : Bool → Prop} (q : P b) : ∃ k, V.bl b = .bl k ∧ P k := ⟨b, rfl, q⟩
instance wk_g_bl {P : Bool → Prop} : Wk (∃ k, V.bl b = .bl k ∧ P k) (P b) := ⟨fun q_ => g_bl q_⟩
theorem g_not (q : tt σ H fun c H1 => QB (!c) H1) : tNot tt σ H QB := q
instance wk_g_not : Wk (tNot tt σ H QB) (tt σ H fun c H1 => QB (!c) H1) := ⟨fun q_ => g_not q_⟩
theorem g_and (q : tt σ H fun c H1 => if c = true then tu σ H1 QB else QB false H1) : tAnd tt tu σ H QB := q
instance wk_g_and : Wk (tAnd tt tu σ H QB) (tt σ H fun c H1 => if c = true then tu σ H1 QB else QB false H1) := ⟨fun q_ => g_and q_⟩
theorem g_or (q : tt σ H fun c H1 => if c = true then QB true H1 else tu σ H1 QB) : tOr tt tu σ H QB := q
instance wk_g_or : Wk (tOr tt tu σ H QB) (tt σ H fun c H1 => if c = true then QB true H1 else tu σ H1 QB) := ⟨fun q_ => g_or q_⟩
theorem g_andV (q : ta σ H fun x H1 => ∃ c, x = .bl c ∧ if c = true then tb σ H1 Q else Q (.bl false) H1) : tAndV ta tb σ H Q := q
instance wk_g_andV : Wk (tAndV ta tb σ H Q) (ta σ H fun x H1 => ∃ c, x = .bl c ∧ if c = true then tb σ H1 Q else Q (.bl false) H1) := ⟨fun q_ => g_andV q_⟩
theorem g_orV (q : ta σ H fun x H1 => ∃ c, x = .bl c ∧ if c = true then Q (.bl true) H1 else tb σ H1 Q) : tOrV ta tb σ H Q := q
instance wk_g_orV : Wk (tOrV ta tb σ H Q) (ta σ H fun x H1 => ∃ c, x = .bl c ∧ if c = true then Q (.bl true) H1 else tb σ H1 Q) := ⟨fun q_ => g_orV q_⟩
theorem g_notV (q : ta σ H fun x H1 => ∃ c, x = .bl c ∧ Q (.bl (!c)) H1) : tNotV ta σ H Q := q
instance wk_g_notV : Wk (tNotV ta σ H Q) (ta σ H fun x H1 => ∃ c, x = .bl c ∧ Q (.bl (!c)) H1) := ⟨fun q_ => g_notV q_⟩
theorem g_if (q : tt σ H fun c H1 => if c = true then ta σ H1 Q else tb σ H1 Q) : tIf tt ta tb σ H Q := q
instance wk_g_if : Wk (tIf tt ta tb σ H Q) (tt σ H fun c H1 => if c = true then ta σ H1 Q else tb σ H1 Q) := ⟨fun q_ => g_if q_⟩
theorem g_tup {t : TA} (q : t σ H fun xs H1 => xs.length ≤ sizeLine ∧ ∀ p, H1 p = none → Q (.ref p) (upd H1 p (.tup xs))) : tTup t σ H Q := q
instance wk_g_tup {t : TA} : Wk (tTup t σ H Q) (t σ H fun xs H1 => xs.length ≤ sizeLine ∧ ∀ p, H1 p = none → Q (.ref p) (upd H1 p (.tup xs))) := ⟨fun q_ => g_tup q_⟩
theorem g_lst {t : TA} (q : t σ H fun xs H1 => xs.length ≤ sizeLine ∧ ∀ p, H1 p = none → Q (.ref p) (upd H1 p (.lst xs))) : tLst t σ H Q := q
instance wk_g_lst {t : TA} : Wk (tLst t σ H Q) (t σ H fun xs H1 => xs.length ≤ sizeLine ∧ ∀ p, H1 p = none → Q (.ref p) (upd H1 p (.lst xs))) := ⟨fun q_ => g_lst q_⟩
theorem g_nil {R : List V → Hp → Prop} (q : R [] H) : tNil σ H R := q
instance wk_g_nil {R : List V → Hp → Prop} : Wk (tNil σ H R) (R [] H) := ⟨fun q_ => g_nil q_⟩
theorem g_cons {t : TA} {R : List V → Hp → Prop} (q : te σ H fun x H1 => t σ H1 fun xs H2 => R (x :: xs) H2) : tCons te t σ H R := q
instance wk_g_cons {t : TA} {R : List V → Hp → Prop} : Wk (tCons te t σ H R) (te σ H fun x H1 => t σ H1 fun xs H2 => R (x :: xs) H2) := ⟨fun q_ => g_cons q_⟩
theorem g_call {sp : Sp} {dvs : List V} {E : XK} {t : TA} (q : t σ H fun vs H1 => sp (vs ++ dvs) H1 Q E) : tCall sp dvs E t σ H Q := q
instance wk_g_call {sp : Sp} {dvs : List V} {E : XK} {t : TA} : Wk (tCall sp dvs E t σ H Q) (t σ H fun vs H1 => sp (vs ++ dvs) H1 Q E) := ⟨fun q_ => g_call q_⟩
theorem g_cb {r : List V → Hp → VK → Prop} {t : TA} (q : t σ H fun vs H1 => r vs H1 Q) : tCB r t σ H Q := q
instance wk_g_cb {r : List V → Hp → VK → Prop} {t : TA} : Wk (tCB r t σ H Q) (t σ H fun vs H1 => r vs H1 Q) := ⟨fun q_ => g_cb q_⟩
theorem g_bm {T : String} {r : V → List V → Hp → VK → Prop} {t : TA} (q : te σ H fun x H1 => tyV K T x H1 ∧ t σ H1 fun xs H2 => r x xs H2 Q) : tBM K T r te t σ H Q := q
instance wk_g_bm {T : String} {r : V → List V → Hp → VK → Prop} {t : TA} : Wk (tBM K T r te t σ H Q) (te σ H fun x H1 => tyV K T x H1 ∧ t σ H1 fun xs H2 => r x xs H2 Q) := ⟨fun q_ => g_bm q_⟩
theorem g_bm0 {T : String} {r : V → List V → Hp → VK → Prop} (q : te σ H fun x H1 => tyV K T x H1 ∧ r x [] H1 Q) : tBM0 K T r te σ H Q := q
instance wk_g_bm0 {T : String} {r : V → List V → Hp → VK → Prop} : Wk (tBM0 K T r te σ H Q) (te σ H fun x H1 => tyV K T x H1 ∧ r x [] H1 Q) := ⟨fun q_ => g_bm0 q_⟩
theorem g_m0 {r : V → List V → Hp → VK → Prop} (q : te σ H fun x H1 => (∃ a, x = .str a) ∧ r x [] H1 Q) : tM0 r te σ H Q := q
instance wk_g_m0 {r : V → List V → Hp → VK → Prop} : Wk (tM0 r te σ H Q) (te σ H fun x H1 => (∃ a, x = .str a) ∧ r x [] H1 Q) := ⟨fun q_ => g_m0 q_⟩
theorem g_m1 {r : V → List V → Hp → VK → Prop} (q : te σ H fun x H1 => (∃ a, x = .str a) ∧ ta σ H1 fun y H2 => r x [y] H2 Q) : tM1 r te ta σ H Q := q
instance wk_g_m1 {r : V → List V → Hp → VK → Prop} : Wk (tM1 r te ta σ H Q) (te σ H fun x H1 => (∃ a, x = .str a) ∧ ta σ H1 fun y H2 => r x [y] H2 Q) := ⟨fun q_ => g_m1 q_⟩
theorem g_sl {r : V → Option Int → Option Int → Hp → VK → Prop} {tl th : TO} (q : te σ H fun x H1 => tl σ H1 fun l H2 => th σ H2 fun u H3 => r x l u H3 Q) : tSl r te tl th σ H Q := q
instance wk_g_sl {r : V → Option Int → Option Int → Hp → VK → Prop} {tl th : TO} : Wk (tSl r te tl th σ H Q) (te σ H fun x H1 => tl σ H1 fun l H2 => th σ H2 fun u H3 => r x l u H3 Q) := ⟨fun q_ => g_sl q_⟩
theorem g_nop {R : Option Int → Hp → Prop} (q : R none H) : tNoPart σ H R := q
instance wk_g_nop {R : Option Int → Hp → Prop} : Wk (tNoPart σ H R) (R none H) := ⟨fun q_ => g_nop q_⟩
theorem g_part {R : Option Int → Hp → Prop} (q : te σ H fun x H1 => ∃ i, x = .int i ∧ R (some i) H1) : tPart te σ H R := q
instance wk_g_part {R : Option Int → Hp → Prop} : Wk (tPart te σ H R) (te σ H fun x H1 => ∃ i, x = .int i ∧ R (some i) H1) := ⟨fun q_ => g_part q_⟩
theorem g_isI {P : Int → Prop} (q : P i) : ∃ k, V.int i = .int k ∧ P k := ⟨i, rfl, q⟩
instance wk_g_isI {P : Int → Prop} : Wk (∃ k, V.int i = .int k ∧ P k) (P i) := ⟨fun q_ => g_isI q_⟩
theorem g_isS {P : Prop} {z : Str} (q : P) : (∃ a, V.str z = .str a) ∧ P := ⟨⟨z, rfl⟩, q⟩
instance wk_g_isS {P : Prop} {z : Str} : Wk ((∃ a, V.str z = .str a) ∧ P) (P) := ⟨fun q_ => g_isS q_⟩
theorem g_aug {n : Nat} {ti : TIp} (h : σ[n]? = some (some v)) (q : te σ H fun y H1 => ti v y H1 fun z H2 => D.nx (σ.set n (some z)) H2) : tAug n te ti D σ H := ⟨v, h, q⟩
/-! equality of scalars -/
theorem g_eqI (q : Q (.bl (decide (i = j))) H) : rEq (.int i) (.int j) H Q := ⟨rfl, by
  have e : decide (V.int i = V.int j) = decide (i = j) := by by_cases h : i = j <;> simp [h]
  rw [e]; exact q⟩
instance wk_g_eqI : Wk (rEq (.int i) (.int j) H Q) (Q (.bl (decide (i = j))) H) := ⟨fun q_ => g_eqI q_⟩
theorem g_neI (q : Q (.bl (!decide (i = j))) H) : rNe (.int i) (.int j) H Q := ⟨rfl, by
  have e : decide (V.int i = V.int j) = decide (i = j) := by by_cases h : i = j <;> simp [h]
  rw [e]; exact q⟩
instance wk_g_neI : Wk (rNe (.int i) (.int j) H Q) (Q (.bl (!decide (i = j))) H) := ⟨fun q_ => g_neI q_⟩
theorem g_eqS {z w : Str} (q : Q (.bl (decide (z = w))) H) : rEq (.str z) (.str w) H Q := ⟨rfl, by
  have e : decide (V.str z = V.str w) = decide (z = w) := by by_cases h : z = w <;> simp [h]
  rw [e]; exact q⟩
instance wk_g_eqS {z w : Str} : Wk (rEq (.str z) (.str w) H Q) (Q (.bl (decide (z = w))) H) := ⟨fun q_ => g_eqS q_⟩
theorem g_neS {z w : Str} (q : Q (.bl (!decide (z = w))) H) : rNe (.str z) (.str w) H Q := ⟨rfl, by
  have e : decide (V.str z = V.str w) = decide (z = w) := by by_cases h : z = w <;> simp [h]
  rw [e]; exact q⟩
instance wk_g_neS {z w : Str} : Wk (rNe (.str z) (.str w) H Q) (Q (.bl (!decide (z = w))) H) := ⟨fun q_ => g_neS q_⟩
/-! ways -/
theorem w_ite {P R : Prop} (h1 : b = true → P) (h2 : b = false → R) : if b = true then P else R := by
  cases b with
  | true => rw [if_pos rfl]; exact h1 rfl
  | false => rw [if_neg Bool.false_ne_true]; exact h2 rfl
theorem w_dec {p P R : Prop} [Decidable p] (h1 : p → P) (h2 : ¬ p → R) : if decide p = true then P else R :=
  w_ite (fun e => h1 (of_decide_eq_true e)) fun e => h2 (of_decide_eq_false e)
theorem w_ndec {p P R : Prop} [Decidable p] (h1 : ¬ p → P) (h2 : p → R) : if (!decide p) = true then P else R :=
  w_ite (fun e => h1 (by simpa using e)) fun e => h2 (by simpa using e)
theorem w_t {P R : Prop} (h : P) : if true = true then P else R := by rw [if_pos rfl]; exact h
instance wk_w_t {P R : Prop} : Wk (if true = true then P else R) (P) := ⟨fun q_ => w_t q_⟩
theorem w_f {P R : Prop} (h : R) : if false = true then P else R := by rw [if_neg Bool.false_ne_true]; exact h
instance wk_w_f {P R : Prop} : Wk (if false = true then P else R) (R) := ⟨fun q_ => w_f q_⟩
theorem w_yes {P R : Prop} (e : b = true) (h : P) : if b = true then P else R := by rw [if_pos e]; exact h
theorem w_no {P R : Prop} (e : b = false) (h : R) : if b = true then P else R := by rw [e, if_neg Bool.false_ne_true]; exact h
/-! loops -/
def LoopOk (J : It) (g : TG) (tb : TS) (D : Ends) (σ : L2.St) (H1 : Hp) : Prop := ∃ W : Nat → Nat → L2.St → Hp → Prop, (∃ m, W 0 m σ H1) ∧ ∀ i m σ H, W i m σ H →
  (J.stop i H ∧ D.nx σ H) ∨ (J.go i H ∧ ∃ N : L2.St → Hp → Prop, (∀ σ' H', N σ' H' → ∃ m', m' < m ∧ W (i + 1) m' σ' H') ∧ ∀ x H', J.yld i H x H' → g x σ H' fun σ2 H2 => tb { D with nx := N, ct := N, bk := D.nx } σ2 H2)
theorem g_for {wi : TI} (q : wi σ H fun J H1 => LoopOk J g t D σ H1) : tFor wi g t D σ H := q
instance wk_g_for {wi : TI} : Wk (tFor wi g t D σ H) (wi σ H fun J H1 => LoopOk J g t D σ H1) := ⟨fun q_ => g_for q_⟩
theorem l_it {J : It} {n : Nat} {G : Hp → Prop} {Y : Nat → Hp → V → Hp → Prop} (w : Walk J n G Y) (Pv : Nat → L2.St → Hp → Prop) (h0 : Pv 0 σ H) (hG : ∀ i σ H, i ≤ n → Pv i σ H → G H)
    (hs : ∀ i x σ H H', i < n → Pv i σ H → Y i H x H' → g x σ H' fun σ2 H2 => t { D with nx := Pv (i + 1), ct := Pv (i + 1), bk := D.nx } σ2 H2) (hd : ∀ σ H, Pv n σ H → D.nx σ H) : LoopOk J g t D σ H := for_it w Pv h0 hG hs hd
def LcOk (J : It) (g : TG) (tt : TT) (te : TE) (vs : List Nat) (Q : VK) (σ : L2.St) (H1 : Hp) : Prop := ∀ D, H1 D = none → ∃ W : Nat → Nat → Hp → Prop, (∃ m, W 0 m (upd H1 D (.lst []))) ∧ ∀ i m H, W i m H →
  (J.stop i H ∧ Q (.ref D) H) ∨ (J.go i H ∧ ∃ Nx : Hp → Prop, (∀ H', Nx H' → ∃ m', m' < m ∧ W (i + 1) m' H') ∧ ∀ x H', J.yld i H x H' → g x (wipe σ vs) H' fun σ2 H2 => wipe σ2 vs = wipe σ vs ∧ tt σ2 H2 fun b H3 =>
    if b = true then te σ2 H3 fun y H4 => ∃ acc, H4 D = some (.lst acc) ∧ acc.length < sizeLine ∧ Nx (upd H4 D (.lst (acc ++ [y]))) else Nx H3)
theorem g_lc {wi : TI} {vs : List Nat} (q : wi σ H fun J H1 => LcOk J g tt te vs Q σ H1) : tLc wi g tt te vs σ H Q := q
instance wk_g_lc {wi : TI} {vs : List Nat} : Wk (tLc wi g tt te vs σ H Q) (wi σ H fun J H1 => LcOk J g tt te vs Q σ H1) := ⟨fun q_ => g_lc q_⟩
/-- a comprehension [f(x) for x in ..] without a test: the i-th element becomes F i; what stood stands -/
theorem lc_pure {J : It} {n : Nat} {G : Hp → Prop} {Y : Nat → Hp → V → Hp → Prop} {vs : List Nat} (w : Walk J n G Y) (F : Nat → V) (hn : n < sizeLine)
    (hG : ∀ H', Ex H H' → G H')
    (hs : ∀ i x H1 H2, i < n → Ex H H1 → Y i H1 x H2 → ∀ R : VK, (∀ H3, (∀ a o, H2 a = some o → H3 a = some o) → R (F i) H3) →
      g x (wipe σ vs) H2 fun σ2 H3 => wipe σ2 vs = wipe σ vs ∧ te σ2 H3 R)
    (hy : ∀ i H1 x H2, Y i H1 x H2 → Ex H1 H2)
    (hq : ∀ p H', H p = none → Ex H H' → H' p = some (.lst ((List.range n).map F)) → Q (.ref p) H') : LcOk J g tYes te vs Q σ H := by
  intro D hD
  refine lc_it w (fun i H' => Ex H H' ∧ H' D = some (.lst ((List.range i).map F))) ⟨Ex.new hD, upd_same⟩ (fun i H' _ h => hG H' h.1) (fun i x H1 H2 hi hP hY => ?_) (fun H' h => hq D H' hD h.1 h.2)
  obtain ⟨hE, hL⟩ := hP
  have e2 := hy i H1 x H2 hY
  have key : ∀ H3, (∀ a o, H2 a = some o → H3 a = some o) → ∃ acc, H3 D = some (.lst acc) ∧ acc.length < sizeLine ∧ (Ex H (upd H3 D (.lst (acc ++ [F i]))) ∧ upd H3 D (.lst (acc ++ [F i])) D = some (.lst ((List.range (i + 1)).map F))) := fun H3 e3 => by
    refine ⟨_, e3 _ _ (e2 _ _ hL), by rw [List.length_map, List.length_range]; omega, Evl.Ex.mut ((hE.trans e2).trans e3) hD, ?_⟩
    rw [upd_same, List.range_succ, List.map_append]
    rfl
  have main := hs i x H1 H2 hi hE hY (fun y H4 => ∃ acc, H4 D = some (.lst acc) ∧ acc.length < sizeLine ∧ (Ex H (upd H4 D (.lst (acc ++ [y]))) ∧ upd H4 D (.lst (acc ++ [y])) D = some (.lst ((List.range (i + 1)).map F)))) key
  exact main
/-! what is walked -/
def rIL (K : PySem.W.Frag) (R : It → Hp → Prop) : VK := fun x H1 => ∃ a, x = .ref a ∧ (∃ xs, SqL K H1 a xs) ∧ R (Itl K a) H1
def rIT (K : PySem.W.Frag) (R : It → Hp → Prop) : VK := fun x H1 => ∃ a, x = .ref a ∧ (∃ xs, SqT K H1 a xs) ∧ R (Itt K a) H1
theorem g_iList {tl : TE} {R : It → Hp → Prop} (q : tl σ H (rIL K R)) : iList K tl σ H R := q
instance wk_g_iList {tl : TE} {R : It → Hp → Prop} : Wk (iList K tl σ H R) (tl σ H (rIL K R)) := ⟨fun q_ => g_iList q_⟩
theorem g_iTup {tl : TE} {R : It → Hp → Prop} (q : tl σ H (rIT K R)) : iTup K tl σ H R := q
instance wk_g_iTup {tl : TE} {R : It → Hp → Prop} : Wk (iTup K tl σ H R) (tl σ H (rIT K R)) := ⟨fun q_ => g_iTup q_⟩
theorem g_atL {R : It → Hp → Prop} {a : Addr} {xs : List V} (h : SqL K H a xs) (q : R (Itl K a) H) : rIL K R (.ref a) H := ⟨a, rfl, ⟨xs, h⟩, q⟩
theorem g_atT {R : It → Hp → Prop} {a : Addr} {xs : List V} (h : SqT K H a xs) (q : R (Itt K a) H) : rIT K R (.ref a) H := ⟨a, rfl, ⟨xs, h⟩, q⟩
theorem g_iStr {R : It → Hp → Prop} (q : te σ H fun v H1 => ∃ x, v = .str x ∧ R (Its x) H1) : iStr te σ H R := q
instance wk_g_iStr {R : It → Hp → Prop} : Wk (iStr te σ H R) (te σ H fun v H1 => ∃ x, v = .str x ∧ R (Its x) H1) := ⟨fun q_ => g_iStr q_⟩
theorem g_atS {P : Str → Prop} {z : Str} (q : P z) : ∃ x, V.str z = .str x ∧ P x := ⟨z, rfl, q⟩
instance wk_g_atS {P : Str → Prop} {z : Str} : Wk (∃ x, V.str z = .str x ∧ P x) (P z) := ⟨fun q_ => g_atS q_⟩
theorem g_iRng1 {ta : TA} {R : It → Hp → Prop} (q : ta σ H fun vs H1 => ∃ j : Int, vs = [.int j] ∧ -(2 ^ 62) ≤ j ∧ j < 2 ^ 62 ∧ R (Itr 0 j.toNat) H1) : iRng1 ta σ H R := q
instance wk_g_iRng1 {ta : TA} {R : It → Hp → Prop} : Wk (iRng1 ta σ H R) (ta σ H fun vs H1 => ∃ j : Int, vs = [.int j] ∧ -(2 ^ 62) ≤ j ∧ j < 2 ^ 62 ∧ R (Itr 0 j.toNat) H1) := ⟨fun q_ => g_iRng1 q_⟩
theorem g_rng {P : Int → Prop} (h : -(2 ^ 62) ≤ i ∧ i < 2 ^ 62) (q : P i) : ∃ j : Int, ([V.int i] : List V) = [.int j] ∧ -(2 ^ 62) ≤ j ∧ j < 2 ^ 62 ∧ P j := ⟨i, rfl, h.1, h.2, q⟩
/-! list items -/
theorem g_ixL {p : Addr} {xs : List V} (h : SqL K H p xs) (ha : atI xs i = some v) (q : Q v H) : rIxL K (.ref p) (.int i) H Q := ⟨p, xs, i, v, rfl, rfl, h, ha, q⟩
theorem g_ixT {p : Addr} {xs : List V} (h : SqT K H p xs) (ha : atI xs i = some v) (q : Q v H) : rIxT K (.ref p) (.int i) H Q := ⟨p, xs, i, v, rfl, rfl, h, ha, q⟩
theorem g_ixS {z : Str} {c : Nat} (h : z.length ≤ sizeLine) (ha : atI z.cps.toList i = some c) (q : Q (.str ⟨#[c]⟩) H) : rIxS (.str z) (.int i) H Q := ⟨z, i, c, rfl, rfl, h, ha, q⟩
theorem g_app {l : Addr} {xs : List V} (hl : H l = some (.lst xs)) (hz : xs.length < sizeLine) (q : Q .non (upd H l (.lst (xs ++ [v])))) : rAppend (.ref l) [v] H Q := ⟨l, xs, v, rfl, rfl, hl, hz, q⟩
theorem g_tyL {P : Prop} {l : Addr} {xs : List V} (hl : SqL K H l xs) (q : P) : tyV K "list" (.ref l) H ∧ P := ⟨.inl ⟨rfl, xs, hl⟩, q⟩
theorem g_tyS {P : Prop} {z : Str} (q : P) : tyV K "str" (.str z) H ∧ P := ⟨rfl, q⟩
instance wk_g_tyS {P : Prop} {z : Str} : Wk (tyV K "str" (.str z) H ∧ P) (P) := ⟨fun q_ => g_tyS q_⟩
theorem g_slL {p : Addr} {xs : List V} {lo hi : Option Int} (h : SqL K H p xs) (q : ∀ p, H p = none → Q (.ref p) (upd H p (.lst (cutV xs lo hi)))) : rSlL K (.ref p) lo hi H Q := ⟨p, xs, rfl, h, q⟩
theorem g_slS {z : Str} {lo hi : Option Int} (h : z.length ≤ sizeLine) (q : Q (.str (cutS z lo hi)) H) : rSlS (.str z) lo hi H Q := ⟨z, rfl, h, q⟩
end
/-! ### B. further rules -/
section
variable {X : Cx}
theorem pe_globE {x : Str} {pos : Pos} {v : V} (h : ∃ u, X.mg x = some u ∧ RelV v u) (hg : Gl X x) (hd : (x == ("__debug__" : Str)) = false := by decide) : PE X (.Name x pos) (tC v) := by
  obtain ⟨u, hm, r⟩ := h
  exact pe_glob hg hm r hd
def rIntI : List V → Hp → VK → Prop := fun xs H Q => ∃ i, xs = [.int i] ∧ Q (.int i) H
def rIntB : List V → Hp → VK → Prop := fun xs H Q => ∃ k, xs = [.bl k] ∧ Q (.int (if k then 1 else 0)) H
theorem call_intI : CallR X (.type "int") rIntI := fun pins s σ H xs us Q I r h => call_int1 pins s σ H xs us Q I r (.inl h)
theorem call_intB : CallR X (.type "int") rIntB := fun pins s σ H xs us Q I r h => call_int1 pins s σ H xs us Q I r (.inr h)
def rAbs : List V → Hp → VK → Prop := fun xs H Q => ∃ i, xs = [.int i] ∧ Q (.int (if i < 0 then -i else i)) H
theorem call_absN : CallR X (.builtin "abs") rAbs := call_abs
def rMax2 : List V → Hp → VK → Prop := fun xs H Q => ∃ i j, xs = [.int i, .int j] ∧ Q (.int (if j > i then j else i)) H
theorem call_max2N (hc : X.calm = true) : CallR X (.builtin "max") rMax2 := call_max2 hc
def rMin2 : List V → Hp → VK → Prop := fun xs H Q => ∃ i j, xs = [.int i, .int j] ∧ Q (.int (if j < i then j else i)) H
theorem call_min2N (hc : X.calm = true) : CallR X (.builtin "min") rMin2 := call_min2 hc
def rLen (K : PySem.W.Frag) : List V → Hp → VK → Prop := fun xs H Q => ∃ p ys, xs = [.ref p] ∧ (SqL K H p ys ∨ SqT K H p ys) ∧ Q (.int ys.length) H
theorem call_lenN : CallR X (.builtin "len") (rLen X.K) := call_len_seq
def rLenS : List V → Hp → VK → Prop := fun xs H Q => ∃ z, xs = [.str z] ∧ z.length ≤ sizeLine ∧ Q (.int z.length) H
theorem call_lenSN : CallR X (.builtin "len") rLenS := call_len_str
def rOrd : List V → Hp → VK → Prop := fun xs H Q => ∃ x, xs = [.str x] ∧ x.length = 1 ∧ Q (.int (x.cps.getD 0 0 : Nat)) H
def rAddS : R2 := fun x y H Q => ∃ i j, x = .str i ∧ y = .str j ∧ i.length + j.length ≤ sizeLine ∧ Q (.str (i ++ j)) H
theorem op_addSN : OpR X (binaryOp .Add) rAddS := op_add_str
def rCmpS (f : List Nat → List Nat → Bool) : R2 := fun x y H Q => ∃ i j, x = .str i ∧ y = .str j ∧ Q (.bl (f i.cps.toList j.cps.toList)) H
theorem op_lt_strN : OpR X (compareOp .Lt) (rCmpS fun a b => decide (a < b)) := op_lt_str
def rInS : R2 := fun x y H Q => ∃ (c : Nat) (z : Str), x = .str ⟨#[c]⟩ ∧ y = .str z ∧ Q (.bl (decide (c ∈ z.cps.toList))) H
def rNinS : R2 := fun x y H Q => ∃ (c : Nat) (z : Str), x = .str ⟨#[c]⟩ ∧ y = .str z ∧ Q (.bl (!decide (c ∈ z.cps.toList))) H
theorem op_inSN : OpR X (compareOp .In) rInS := op_in_sign
def rIsN : R2 := fun x y H Q => y = .non ∧ Q (.bl (decide (x = .non))) H
def rNotN : R2 := fun x y H Q => y = .non ∧ Q (.bl (!decide (x = .non))) H
theorem op_isNN : OpR X (compareOp .Is) rIsN := op_isN
theorem op_notNN : OpR X (compareOp .IsNot) rNotN := op_notN
def rStrI : List V → Hp → VK → Prop := fun xs H Q => ∃ i : Int, xs = [.int i] ∧ i.natAbs.log2 < 1920 ∧ Q (.str (toString i)) H
theorem call_strIN : CallR X (.type "str") rStrI := call_str_int
def rJoin (K : PySem.W.Frag) : V → List V → Hp → VK → Prop := fun x xs H Q => ∃ a p, ∃ ys : List Str, x = .str a ∧ xs = [.ref p] ∧ (SqL K H p (ys.map V.str) ∨ SqT K H p (ys.map V.str)) ∧ (ys.map (·.length)).sum + ys.length * a.length ≤ 16777216 ∧ Q (.str (Txt.join a ys)) H
theorem mt_joinN : MtR X "str.join" (rJoin X.K) := mt_join
def rRjust : V → List V → Hp → VK → Prop := fun x xs H Q => ∃ (a b : Str) (i : Int), x = .str a ∧ xs = [.int i, .str b] ∧ PadOk i = true ∧ b.length = 1 ∧ Q (.str (Txt.rjustF a i (b.cps.getD 0 0))) H
def rSplitMax : V → List V → Hp → VK → Prop := fun x xs H Q => ∃ (a b : Str) (k : Int), x = .str a ∧ xs = [.str b, .int k] ∧ (b.length == 0) = false ∧ -(2 ^ 63) ≤ k ∧ k < 2 ^ 63 ∧ a.length + 2 ≤ sizeLine ∧ rNewStrs (Txt.splitMax a b k) H Q
def rSplit : V → List V → Hp → VK → Prop := fun x xs H Q => ∃ a b, x = .str a ∧ xs = [.str b] ∧ (b.length == 0) = false ∧ a.length + 2 ≤ sizeLine ∧ rNewStrs (Txt.split a b) H Q
theorem mt_splitN : MtR X "str.split" rSplit := mt_split
def rIntS : List V → Hp → VK → Prop := fun xs H Q => ∃ a n, xs = [.str a] ∧ PySem.intText? a = some n ∧ a.length ≤ 640 ∧ Q (.int n) H
theorem call_intSN : CallR X (.type "int") rIntS := call_int_str
/-! enumerate(text, k) -/
end
/-! ### C. the steps as one word -/
theorem fits_of {n : Nat} (h : n ≤ 1000000) : n ≤ sizeLine := Nat.le_trans h (by decide)
theorem fits_lt {n : Nat} (h : n ≤ 1000000) : n < sizeLine := Nat.lt_of_le_of_lt h (by decide)
theorem ex_sqL {K : PySem.W.Frag} {H H' : Hp} {a : Addr} {xs : List V} (e : Ex H H') (h : SqL K H a xs) : SqL K H' a xs := Evl.ex_l e h
theorem ex_sqT {K : PySem.W.Frag} {H H' : Hp} {a : Addr} {xs : List V} (e : Ex H H') (h : SqT K H a xs) : SqT K H' a xs := Evl.ex_t e h
theorem ex_at {H H' : Hp} {a : Addr} {o : HO} (e : Ex H H') (h : H a = some o) : H' a = some o := e a o h
theorem ex_free {H H' : Hp} {p : Addr} (e : Ex H H') (h : H' p = none) : H p = none := Evl.fresh_back e h
theorem g_intI {H : Hp} {Q : VK} {i : Int} (q : Q (.int i) H) : rIntI [.int i] H Q := ⟨i, rfl, q⟩
instance wk_g_intI {H : Hp} {Q : VK} {i : Int} : Wk (rIntI [.int i] H Q) (Q (.int i) H) := ⟨fun q_ => g_intI q_⟩
theorem g_intB {H : Hp} {Q : VK} {b : Bool} (q : Q (.int (if b then 1 else 0)) H) : rIntB [.bl b] H Q := ⟨b, rfl, q⟩
instance wk_g_intB {H : Hp} {Q : VK} {b : Bool} : Wk (rIntB [.bl b] H Q) (Q (.int (if b then 1 else 0)) H) := ⟨fun q_ => g_intB q_⟩
theorem g_abs {H : Hp} {Q : VK} {i : Int} (q : Q (.int (if i < 0 then -i else i)) H) : rAbs [.int i] H Q := ⟨i, rfl, q⟩
instance wk_g_abs {H : Hp} {Q : VK} {i : Int} : Wk (rAbs [.int i] H Q) (Q (.int (if i < 0 then -i else i)) H) := ⟨fun q_ => g_abs q_⟩
theorem g_max2 {H : Hp} {Q : VK} {i j : Int} (q : Q (.int (if j > i then j else i)) H) : rMax2 [.int i, .int j] H Q := ⟨i, j, rfl, q⟩
instance wk_g_max2 {H : Hp} {Q : VK} {i j : Int} : Wk (rMax2 [.int i, .int j] H Q) (Q (.int (if j > i then j else i)) H) := ⟨fun q_ => g_max2 q_⟩
theorem g_min2 {H : Hp} {Q : VK} {i j : Int} (q : Q (.int (if j < i then j else i)) H) : rMin2 [.int i, .int j] H Q := ⟨i, j, rfl, q⟩
instance wk_g_min2 {H : Hp} {Q : VK} {i j : Int} : Wk (rMin2 [.int i, .int j] H Q) (Q (.int (if j < i then j else i)) H) := ⟨fun q_ => g_min2 q_⟩
theorem g_lenL {K : PySem.W.Frag} {H : Hp} {Q : VK} {p : Addr} {xs : List V} (h : SqL K H p xs) (q : Q (.int xs.length) H) : rLen K [.ref p] H Q := ⟨p, xs, rfl, .inl h, q⟩
theorem g_lenT {K : PySem.W.Frag} {H : Hp} {Q : VK} {p : Addr} {xs : List V} (h : SqT K H p xs) (q : Q (.int xs.length) H) : rLen K [.ref p] H Q := ⟨p, xs, rfl, .inr h, q⟩
theorem g_lenS {H : Hp} {Q : VK} {z : Str} (h : z.length ≤ sizeLine) (q : Q (.int z.length) H) : rLenS [.str z] H Q := ⟨z, rfl, h, q⟩
theorem g_addS {H : Hp} {Q : VK} {z w : Str} (h : z.length + w.length ≤ sizeLine) (q : Q (.str (z ++ w)) H) : rAddS (.str z) (.str w) H Q := ⟨z, w, rfl, rfl, h, q⟩
theorem g_ordS {H : Hp} {Q : VK} {c : Nat} (q : Q (.int (c : Nat)) H) : rOrd [.str ⟨#[c]⟩] H Q := ⟨⟨#[c]⟩, rfl, rfl, q⟩
instance wk_g_ordS {H : Hp} {Q : VK} {c : Nat} : Wk (rOrd [.str ⟨#[c]⟩] H Q) (Q (.int (c : Nat)) H) := ⟨fun q_ => g_ordS q_⟩
theorem g_cmpS {H : Hp} {Q : VK} {f : List Nat → List Nat → Bool} {z w : Str} (q : Q (.bl (f z.cps.toList w.cps.toList)) H) : rCmpS f (.str z) (.str w) H Q := ⟨z, w, rfl, rfl, q⟩
instance wk_g_cmpS {H : Hp} {Q : VK} {f : List Nat → List Nat → Bool} {z w : Str} : Wk (rCmpS f (.str z) (.str w) H Q) (Q (.bl (f z.cps.toList w.cps.toList)) H) := ⟨fun q_ => g_cmpS q_⟩
theorem g_inS {H : Hp} {Q : VK} {c : Nat} {w : Str} (q : Q (.bl (decide (c ∈ w.cps.toList))) H) : rInS (.str ⟨#[c]⟩) (.str w) H Q := ⟨c, w, rfl, rfl, q⟩
instance wk_g_inS {H : Hp} {Q : VK} {c : Nat} {w : Str} : Wk (rInS (.str ⟨#[c]⟩) (.str w) H Q) (Q (.bl (decide (c ∈ w.cps.toList))) H) := ⟨fun q_ => g_inS q_⟩
theorem g_ninS {H : Hp} {Q : VK} {c : Nat} {w : Str} (q : Q (.bl (!decide (c ∈ w.cps.toList))) H) : rNinS (.str ⟨#[c]⟩) (.str w) H Q := ⟨c, w, rfl, rfl, q⟩
instance wk_g_ninS {H : Hp} {Q : VK} {c : Nat} {w : Str} : Wk (rNinS (.str ⟨#[c]⟩) (.str w) H Q) (Q (.bl (!decide (c ∈ w.cps.toList))) H) := ⟨fun q_ => g_ninS q_⟩
theorem g_isN {H : Hp} {Q : VK} {v : V} (q : Q (.bl (decide (v = .non))) H) : rIsN v .non H Q := ⟨rfl, q⟩
instance (priority := 500) wk_g_isN {H : Hp} {Q : VK} {v : V} : Wk (rIsN v .non H Q) (Q (.bl (decide (v = .non))) H) := ⟨fun q_ => g_isN q_⟩
theorem g_notN {H : Hp} {Q : VK} {v : V} (q : Q (.bl (!decide (v = .non))) H) : rNotN v .non H Q := ⟨rfl, q⟩
instance (priority := 500) wk_g_notN {H : Hp} {Q : VK} {v : V} : Wk (rNotN v .non H Q) (Q (.bl (!decide (v = .non))) H) := ⟨fun q_ => g_notN q_⟩
theorem g_strI {H : Hp} {Q : VK} {i : Int} (h : i.natAbs.log2 < 1920) (q : Q (.str (toString i)) H) : rStrI [.int i] H Q := ⟨i, rfl, h, q⟩
theorem g_join {K : PySem.W.Frag} {H : Hp} {Q : VK} {z : Str} {p : Addr} {ys : List Str} (h : SqL K H p (ys.map V.str)) (hz : (ys.map (·.length)).sum + ys.length * z.length ≤ 16777216) (q : Q (.str (Txt.join z ys)) H) : rJoin K (.str z) [.ref p] H Q := ⟨z, p, ys, rfl, rfl, .inl h, hz, q⟩
theorem g_rjust {H : Hp} {Q : VK} {z w : Str} {i : Int} (hp : PadOk i = true) (hb : w.length = 1) (q : Q (.str (Txt.rjustF z i (w.cps.getD 0 0))) H) : rRjust (.str z) [.int i, .str w] H Q := ⟨z, w, i, rfl, rfl, hp, hb, q⟩
theorem g_splitMax {H : Hp} {Q : VK} {z w : Str} {k : Int} (hb : (w.length == 0) = false) (hk : -(2 ^ 63) ≤ k ∧ k < 2 ^ 63) (hz : z.length + 2 ≤ sizeLine) (q : ∀ p, H p = none → Q (.ref p) (upd H p (.lst ((Txt.splitMax z w k).map V.str)))) : rSplitMax (.str z) [.str w, .int k] H Q := ⟨z, w, k, rfl, rfl, hb, hk.1, hk.2, hz, q⟩
theorem g_split {H : Hp} {Q : VK} {z w : Str} (hb : (w.length == 0) = false) (hz : z.length + 2 ≤ sizeLine) (q : ∀ p, H p = none → Q (.ref p) (upd H p (.lst ((Txt.split z w).map V.str)))) : rSplit (.str z) [.str w] H Q := ⟨z, w, rfl, rfl, hb, hz, q⟩
theorem g_intS {H : Hp} {Q : VK} {z : Str} {n : Int} (h : PySem.intText? z = some n) (hz : z.length ≤ 640) (q : Q (.int n) H) : rIntS [.str z] H Q := ⟨z, n, rfl, h, hz, q⟩
theorem g_all {K : PySem.W.Frag} {H : Hp} {Q : VK} {p : Addr} {bs : List Bool} (h : SqL K H p (bs.map V.bl)) (q : Q (.bl (bs.all id)) H) : rAll K [.ref p] H Q := ⟨p, bs, rfl, h, q⟩
theorem l_while {tt : TT} {tb : TS} {D : Ends} {σ : L2.St} {H : Hp} (W : Nat → L2.St → Hp → Prop) (m : Nat) (w0 : W m σ H)
    (hs : ∀ m σ H, W m σ H → ∃ b, (∀ QB : Bool → Hp → Prop, QB b H → tt σ H QB) ∧ (b = true → tb { D with nx := fun σ' H' => ∃ m', m' < m ∧ W m' σ' H', ct := fun σ' H' => ∃ m', m' < m ∧ W m' σ' H', bk := D.nx } σ H) ∧ (b = false → D.nx σ H)) : tWhile tt tb D σ H := by
  refine ⟨W, ⟨m, w0⟩, fun m σ H hw => ?_⟩
  obtain ⟨b, ht, h1, h2⟩ := hs m σ H hw
  refine ht _ ?_
  cases b with
  | true => exact w_t ⟨_, fun _ _ n => n, h1 rfl⟩
  | false => exact w_f (h2 rfl)
theorem cutV_to (ys : List V) {k : Int} (h : 0 ≤ k) : cutV ys none (some k) = ys.take k.toNat := by
  obtain ⟨n, rfl⟩ := Int.eq_ofNat_of_zero_le h
  unfold cutV
  rw [HT.sIx_none, HT.sIx_nat, List.drop_zero, Nat.sub_zero, Int.toNat_natCast]
  by_cases hn : n ≤ ys.length
  · rw [Nat.min_eq_left hn]
  · rw [Nat.min_eq_right (by omega), List.take_of_length_le (Nat.le_refl _), List.take_of_length_le (by omega)]
theorem cutV_from (ys : List V) {k : Int} (h : 0 ≤ k) : cutV ys (some k) none = ys.drop k.toNat := by
  obtain ⟨n, rfl⟩ := Int.eq_ofNat_of_zero_le h
  unfold cutV
  rw [HT.sIx_none, HT.sIx_nat, Int.toNat_natCast]
  by_cases hn : n ≤ ys.length
  · rw [Nat.min_eq_left hn]
    exact List.take_of_length_le (by rw [List.length_drop]; omega)
  · rw [Nat.min_eq_right (by omega), List.drop_of_length_le (Nat.le_refl _), List.drop_of_length_le (by omega), List.take_nil]
/-- if p: x = e (no else), one continuation for both ways -/
theorem w_ifset {p : Prop} [Decidable p] {te : TE} {n : Nat} {D : Ends} {σ : L2.St} {H : Hp} (W : V → Prop) (h1 : p → ∀ R : VK, (∀ x H', W x → Ex H H' → R x H') → te σ H R) (h0 : ¬ p → ∃ old, σ[n]? = some (some old) ∧ W old)
    (hk : ∀ x H', W x → Ex H H' → D.nx (σ.set n (some x)) H') : if decide p = true then tAsg te (gName n) D σ H else tNext D σ H := by
  refine w_dec (fun h => ?_) (fun h => ?_)
  · exact h1 h _ hk
  · obtain ⟨old, e, w⟩ := h0 h
    have e2 : σ.set n (some old) = σ := by
      apply List.ext_getElem?
      intro k
      by_cases hk : n = k
      · subst hk
        have hl : n < σ.length := (List.getElem?_eq_some_iff.mp e).1
        rw [List.getElem?_set_self hl, e]
      · rw [List.getElem?_set_ne hk]
    have q := hk old H w (Evl.Ex.refl H)
    rw [e2] at q
    exact q
theorem g_new {P : Addr → Prop} {n : Nat} {H : Hp} (hz : n ≤ sizeLine) (q : ∀ p, H p = none → P p) : n ≤ sizeLine ∧ ∀ p, H p = none → P p := ⟨hz, q⟩
/-! rules whose reading names the written part: told for a K that is said -/
section
variable {X : Cx} {K : PySem.W.Frag}
theorem ix_listK (h : X.K = K) : IxR X (rIxL K) := by subst h; exact ix_list
theorem ix_tupK (h : X.K = K) : IxR X (rIxT K) := by subst h; exact ix_tup
theorem sl_listK (h : X.K = K) : SlR X (rSlL K) := by subst h; exact sl_list
theorem sl_tupK (h : X.K = K) : SlR X (rSlT K) := by subst h; exact sl_tup
theorem call_lenK (h : X.K = K) : CallR X (.builtin "len") (rLen K) := by subst h; exact call_lenN
theorem op_inK (h : X.K = K) : OpR X (compareOp .In) (rIn K false) := by subst h; exact op_in_seq
theorem op_eqDK (h : X.K = K) (hu : X.A.units + 64 < cLine) : OpR X (compareOp .Eq) (rEqD K) := by subst h; exact op_eqD hu
theorem op_neDK (h : X.K = K) (hu : X.A.units + 64 < cLine) : OpR X (compareOp .NotEq) (rNeD K) := by subst h; exact op_neD hu
theorem cr_allK (h : X.K = K) (hc : X.calm = true) : CallR X (.builtin "all") (rAll K) := by subst h; exact cr_all hc
theorem mt_joinK (h : X.K = K) : MtR X "str.join" (rJoin K) := by subst h; exact mt_joinN
theorem pe_bmK {o e : Expr} {es : List Expr} {to : TE} {t : TA} {name : Str} {apos cpos : Pos} {T id : String} {r : V → List V → Hp → VK → Prop} (h : X.K = K) (pa : PlainAttrs T) (slot : Slot T name id) (hty : typeOf (.builtin id) = pure (.type "method_descriptor")) (hm : MtR X id r) (ho : PE X o to) (ha : PA X (e :: es) t)
    (hbase : attributeBase o name X.env (eval o X.env) = eval o X.env := by rfl)
    (hfew : ((backTo cpos (starEach (e :: es) X.env)).all (fun x => !x.1) && (backToKw cpos (keywordEach [] X.env)).all (fun x => x.1.isSome)
      && decide ((e :: es).length + ([] : List Keyword).length + (if ([] : List Keyword).isEmpty then 0 else 1) < 30)) = true := by rfl)
    (hline : (apos.endLine == cpos.line) = true := by rfl) (hs : starEach (e :: es) X.env = (false, eval e X.env) :: starEach es X.env := by rfl) (hplain : (backTo cpos (starEach es X.env)).any (·.1) = false := by rfl) :
    PE X (.Call (.Attribute o name apos) (e :: es) [] cpos) (tBM K T r to t) := by subst h; exact pe_bm pa slot hty hm ho ha hbase hfew hline hs hplain
theorem pg_tupK {es : List Expr} {k : Nat} {pos : Pos} {t : TGs} {n : Nat} (h : X.K = K) (hc : X.calm = true) (hs : PGs X es t) (hn : (assignEach es X.env).length = n := by rfl) (hst : (assignEach es X.env).findIdx? (·.1) = none := by rfl) : PG X (.Tuple es k pos) (gTup K n t) := by
  subst h; exact pg_tup hc hs hn hst
theorem pi_listK {tg l : Expr} {tl : TE} (h : X.K = K) (hl : PE X l tl) : PI X tg l (iList K tl) := by subst h; exact pi_list hl
theorem pi_tupK {tg l : Expr} {tl : TE} (h : X.K = K) (hl : PE X l tl) : PI X tg l (iTup K tl) := by subst h; exact pi_tup hl
end
open TL
/-! ### D. comprehensions over a text, a range, a list -/
section
variable {K : PySem.W.Frag} {σ : L2.St} {H : Hp} {Q : VK} {te : TE} {g : TG} {vs : List Nat}
theorem map_getD {α : Type} (l : List α) (d : α) (f : α → V) : (List.range l.length).map (fun i => f (l.getD i d)) = l.map f := by
  apply List.ext_getElem?
  intro k
  by_cases h : k < l.length
  · simp [h, List.getD]
  · simp [h]
theorem lc_str {z : Str} (f : Nat → V) (hn : z.length ≤ 1000000)
    (hs : ∀ c ∈ tl z, ∀ H1, Ex H H1 → ∀ R : VK, (∀ H3, Ex H1 H3 → R (f c) H3) → g (.str ⟨#[c]⟩) (wipe σ vs) H1 fun σ2 H3 => wipe σ2 vs = wipe σ vs ∧ te σ2 H3 R)
    (hq : ∀ p H', H p = none → Ex H H' → H' p = some (.lst ((tl z).map f)) → Q (.ref p) H') : LcOk (Its z) g tYes te vs Q σ H := by
  have hl : z.cps.size = (tl z).length := by simp [tl]
  refine lc_pure walk_str (fun i => f ((tl z).getD i 0)) (fits_lt (by rw [hl, ← len_tl]; exact hn)) (fun _ _ => trivial) (fun i x H1 H2 hi hE hY R hR => ?_) (fun i H1 x H2 hY => ?_) (fun p H' hp hE hL => ?_)
  · obtain ⟨rfl, c, hc, rfl⟩ := hY
    have e : (tl z)[i]? = some c := by simpa [tl] using hc
    have e2 : (tl z).getD i 0 = c := by rw [List.getD_eq_getElem?_getD, e]; rfl
    exact hs c (List.mem_of_getElem? e) H2 hE R fun H3 h3 => by
      have q := hR H3 h3
      simp only [e2] at q
      exact q
  · obtain ⟨rfl, _⟩ := hY
    exact Evl.Ex.refl _
  · refine hq p H' hp hE ?_
    rw [hL, hl, map_getD]
theorem lc_rng {n : Nat} (f : Nat → V) (hn : n ≤ 1000000)
    (hs : ∀ i, i < n → ∀ H1, Ex H H1 → ∀ R : VK, (∀ H3, Ex H1 H3 → R (f i) H3) → g (.int ((i : Nat) : Int)) (wipe σ vs) H1 fun σ2 H3 => wipe σ2 vs = wipe σ vs ∧ te σ2 H3 R)
    (hq : ∀ p H', H p = none → Ex H H' → H' p = some (.lst ((List.range n).map f)) → Q (.ref p) H') : LcOk (Itr 0 n) g tYes te vs Q σ H := by
  refine lc_pure walk_range f (fits_lt hn) (fun _ _ => trivial) (fun i x H1 H2 hi hE hY R hR => ?_) (fun i H1 x H2 hY => ?_) hq
  · obtain ⟨rfl, rfl⟩ := hY
    have e : (0 : Int) + (i : Nat) = ((i : Nat) : Int) := Int.zero_add _
    show g (.int ((0 : Int) + (i : Nat))) _ _ _
    rw [e]
    exact hs i hi H2 hE R hR
  · obtain ⟨rfl, _⟩ := hY
    exact Evl.Ex.refl _
theorem lc_lst {α : Type} {a : Addr} {xs : List α} (enc : α → V) (f : α → V) (d : α) (hS : SqL K H a (xs.map enc)) (hn : xs.length ≤ 1000000)
    (hs : ∀ x ∈ xs, ∀ H1, Ex H H1 → ∀ R : VK, (∀ H3, Ex H1 H3 → R (f x) H3) → g (enc x) (wipe σ vs) H1 fun σ2 H3 => wipe σ2 vs = wipe σ vs ∧ te σ2 H3 R)
    (hq : ∀ p H', H p = none → Ex H H' → H' p = some (.lst (xs.map f)) → Q (.ref p) H') : LcOk (Itl K a) g tYes te vs Q σ H := by
  refine lc_pure (walk_list (xs := xs.map enc)) (fun i => f (xs.getD i d)) (fits_lt (by rw [List.length_map]; exact hn)) (fun H' e => ex_sqL e hS) (fun i x H1 H2 hi hE hY R hR => ?_) (fun i H1 x H2 hY => ?_) (fun p H' hp hE hL => ?_)
  · obtain ⟨rfl, hx⟩ := hY
    rw [List.getElem?_map] at hx
    cases e : xs[i]? with
    | none => rw [e] at hx; cases hx
    | some y =>
      rw [e] at hx
      have ex : enc y = x := Option.some.inj hx
      subst ex
      have e2 : xs.getD i d = y := by rw [List.getD_eq_getElem?_getD, e]; rfl
      exact hs y (List.mem_of_getElem? e) H2 hE R fun H3 h3 => by
        have q := hR H3 h3
        simp only [e2] at q
        exact q
  · obtain ⟨rfl, _⟩ := hY
    exact Evl.Ex.refl _
  · refine hq p H' hp hE ?_
    rw [hL, List.length_map, map_getD]
end
/-! ### E. texts as lists of codes -/
def stxt (l : List Nat) : Str := ⟨l.toArray⟩
theorem tl_stxt (l : List Nat) : tl (stxt l) = l := rfl
theorem len_stxt (l : List Nat) : (stxt l).length = l.length := by rw [len_tl, tl_stxt]
theorem stxt_tl (z : Str) : stxt (tl z) = z := ext_tl rfl
theorem joinL_nil (ps : List (List Nat)) : joinL [] ps = ps.flatten := by
  induction ps with
  | nil => rfl
  | cons p r ih =>
    cases r with
    | nil => show p = [p].flatten; simp
    | cons q r =>
      show p ++ ([] ++ joinL [] (q :: r)) = _
      rw [ih]; simp
theorem tl_glue (ys : List Str) : tl (Txt.join "" ys) = (ys.map tl).flatten := by
  rw [join_eq, tl_join]
  exact joinL_nil _
/-! the first blank -/
def brk : List Nat → Option (List Nat × List Nat)
  | [] => none
  | c :: r => if c = 32 then some ([], r) else match brk r with
    | none => none
    | some (a, b) => some (c :: a, b)
theorem brk_none : ∀ {l : List Nat}, 32 ∉ l → brk l = none
  | [], _ => rfl
  | c :: r, h => by
    have h1 : c ≠ 32 := fun e => h (by rw [e]; exact List.mem_cons_self)
    have h2 : 32 ∉ r := fun e => h (List.mem_cons_of_mem _ e)
    unfold brk
    rw [if_neg h1, brk_none h2]
theorem brk_app : ∀ {a : List Nat} (r : List Nat), 32 ∉ a → brk (a ++ 32 :: r) = some (a, r)
  | [], r, _ => by show brk (32 :: r) = _; unfold brk; rw [if_pos rfl]
  | c :: a, r, h => by
    have h1 : c ≠ 32 := fun e => h (by rw [e]; exact List.mem_cons_self)
    have h2 : 32 ∉ a := fun e => h (List.mem_cons_of_mem _ e)
    show brk (c :: (a ++ 32 :: r)) = _
    unfold brk
    rw [if_neg h1, brk_app r h2]
/-- the parts between the first n blanks -/
def cutN : Nat → List Nat → List (List Nat)
  | 0, l => [l]
  | n + 1, l => match brk l with
    | none => [l]
    | some (a, r) => a :: cutN n r
open PySem.StrLaws PySem.Builtin.Str in
theorem run_lim (s sub : Str) (hi limit lo : Nat) (hw : 1 ≤ sub.length) : ∀ (m cur : Nat) (st : Array Nat × Nat), ChainG s sub hi lo st.fst.toList st.snd → st.fst.size ≤ limit → (st.fst.size < limit → ∀ k, st.snd ≤ k → k < cur → ¬ At s sub hi k) →
    ChainG s sub hi lo (forIn (List.range' cur m) st (occBody s sub hi limit)).run.fst.toList (forIn (List.range' cur m) st (occBody s sub hi limit)).run.snd ∧
    (forIn (List.range' cur m) st (occBody s sub hi limit)).run.fst.size ≤ limit ∧
    ((forIn (List.range' cur m) st (occBody s sub hi limit)).run.fst.size < limit → ∀ k, (forIn (List.range' cur m) st (occBody s sub hi limit)).run.snd ≤ k → k < cur + m → ¬ At s sub hi k)
  | 0, cur, st, h, hz, hn => ⟨h, hz, hn⟩
  | m + 1, cur, st, h, hz, hn => by
    rw [List.range'_succ, List.forIn_cons]
    unfold occBody
    have e : cur + (m + 1) = (cur + 1) + m := by omega
    rw [e]
    split
    · rename_i hc
      refine run_lim s sub hi limit lo hw m (cur + 1) _ ?_ ?_ ?_
      · show ChainG s sub hi lo (st.fst.push cur).toList (cur + sub.length)
        rw [Array.toList_push]
        exact chainG_snoc h hc.1.1.2 ⟨hc.1.2, hc.2⟩ (hn hc.1.1.1)
      · show (st.fst.push cur).size ≤ limit
        rw [Array.size_push]
        exact hc.1.1.1
      · intro _ k h1 h2
        have h1' : cur + sub.length ≤ k := h1
        omega
    · rename_i hc
      refine run_lim s sub hi limit lo hw m (cur + 1) _ h hz ?_
      intro hlt k h1 h2 hA
      by_cases hk : k < cur
      · exact hn hlt k h1 hk hA
      · have ek : k = cur := by omega
        subst ek
        exact hc ⟨⟨⟨hlt, h1⟩, hA.1⟩, hA.2⟩
open PySem.StrLaws PySem.Builtin.Str in
theorem occ_lim (x y : Str) (limit : Nat) (hw : 1 ≤ y.length) : ∃ f, ChainG x y x.length 0 (occurrences x y 0 x.length limit) f ∧ (occurrences x y 0 x.length limit).length ≤ limit ∧
    ((occurrences x y 0 x.length limit).length < limit → ∀ k, f ≤ k → ¬ At x y x.length k) := by
  rw [occ_eq]
  have key := run_lim x y x.length limit 0 hw (x.length + 1 - 0) 0 ((#[] : Array Nat), 0) rfl (Nat.zero_le _) (fun _ k _ h => by omega)
  refine ⟨_, key.1, by simpa using key.2.1, fun hl k hk hA => ?_⟩
  exact key.2.2 (by simpa using hl) k hk (by have := hA.1; omega) hA
open PySem.StrLaws PySem.Builtin.Str in
theorem parts_cutN {x : Str} : ∀ (cuts : List Nat) (a f n : Nat), a ≤ (tl x).length → ChainG x ⟨#[32]⟩ x.length a cuts f → cuts.length ≤ n → (cuts.length < n → ∀ k, f ≤ k → ¬ At x ⟨#[32]⟩ x.length k) →
    (partsFrom x 1 a cuts).map tl = cutN n ((tl x).drop a)
  | [], a, f, n, ha, h, hc, hn => by
    have e : f = a := h
    subst e
    show [tl (strSub x f x.length)] = _
    rw [tl_strSub_end]
    cases n with
    | zero => rfl
    | succ n =>
      have hb : brk ((tl x).drop f) = none := by
        refine brk_none ?_
        have q := part_free x 32 f x.length (Nat.le_refl _) (fun k h1 _ => hn (Nat.succ_pos _) k h1)
        have q2 : 32 ∉ tl (strSub x f x.length) := q
        rw [tl_strSub_end] at q2
        exact q2
      unfold cutN
      rw [hb]
  | c :: r, a, f, n, ha, h, hc, hn => by
    obtain ⟨h1, h2, h3, h4⟩ := h
    have hc1 : c + 1 ≤ x.length := h2.1
    have hx := len_tl x
    cases n with
    | zero => simp at hc
    | succ n =>
      have ih := parts_cutN r (c + 1) f n (by omega) h4 (by simpa using hc) (fun hl => hn (by simpa using hl))
      show tl (strSub x a c) :: (partsFrom x 1 (c + 1) r).map tl = _
      have hat : (tl x)[c]? = some 32 := (subAt_one x 32 c).mp h2
      have q : 32 ∉ tl (strSub x a c) := part_free x 32 a c (by omega) (fun k k1 k2 => h3 k k1 k2)
      have hclt : c < (tl x).length := by omega
      have e : (tl x).drop a = tl (strSub x a c) ++ 32 :: (tl x).drop (c + 1) := by
        rw [tl_strSub]
        have e1 : (tl x).drop c = 32 :: (tl x).drop (c + 1) := by
          rw [List.drop_eq_getElem_cons hclt]
          congr 1
          rw [List.getElem?_eq_getElem hclt] at hat
          exact Option.some.inj hat
        have e2 : ((tl x).drop a).drop (c - a) = (tl x).drop c := by
          rw [List.drop_drop]
          congr 1
          omega
        rw [← e1, ← e2, List.take_append_drop]
      rw [e]
      unfold cutN
      rw [brk_app _ q, ih]
open PySem.StrLaws PySem.Builtin.Str in
/-- x.split(" ", k) -/
theorem splitMax_cutN (x : Str) {k : Int} (hk : 0 < k) : (Txt.splitMax x " " k).map tl = cutN k.toNat (tl x) := by
  have ey : (" " : Str) = ⟨#[32]⟩ := by decide
  rw [ey]
  have elim : limitOf x k = k.toNat := by unfold limitOf; rw [if_neg (by omega)]
  obtain ⟨f, g, hz, hn⟩ := occ_lim x ⟨#[32]⟩ k.toNat (by decide)
  have key := parts_cutN _ 0 f k.toNat (Nat.zero_le _) g hz hn
  rw [List.drop_zero] at key
  have none_case : occurrences x ⟨#[32]⟩ 0 x.length k.toNat = [] → [x].map tl = cutN k.toNat (tl x) := fun ho => by
    rw [ho] at key
    rw [← key]
    show [tl x] = [tl (strSub x 0 x.length)]
    rw [sub_whole]
  have hkind : ¬ Builtin.Str.strKind x < Builtin.Str.strKind ⟨#[32]⟩ := kind_ok (by decide +kernel)
  unfold Txt.splitMax
  rw [elim]
  by_cases h1 : (decide (x.length < (⟨#[32]⟩ : Str).length) || decide (Builtin.Str.strKind x < Builtin.Str.strKind ⟨#[32]⟩)) = true
  · rw [if_pos h1]
    have hlt : x.length < 1 := by
      simp only [Bool.or_eq_true, decide_eq_true_eq] at h1
      rcases h1 with h | h
      · exact h
      · exact absurd h hkind
    refine none_case ?_
    cases ho : occurrences x ⟨#[32]⟩ 0 x.length k.toNat with
    | nil => rfl
    | cons c r =>
      rw [ho] at g
      have hc : c + 1 ≤ x.length := g.2.1.1
      omega
  · rw [if_neg h1]
    by_cases h2 : (occurrences x ⟨#[32]⟩ 0 x.length k.toNat).isEmpty = true
    · rw [if_pos h2]
      exact none_case (List.isEmpty_iff.mp h2)
    · rw [if_neg h2, partsBetween_eq]
      exact key
/-! ### E2. more steps: texts, all, f-strings, pairs -/
section
variable {K : PySem.W.Frag} {σ : L2.St} {H : Hp} {Q : VK} {te : TE} {g : TG}
theorem g_allF {α : Type} {p : Addr} {l : List α} {b : α → Bool} (h : SqL K H p (l.map fun c => V.bl (b c))) (q : Q (.bl (l.all b)) H) : rAll K [.ref p] H Q := by
  have e : (l.map fun c => V.bl (b c)) = (l.map b).map V.bl := by rw [List.map_map]; rfl
  rw [e] at h
  refine g_all h ?_
  have e2 : (l.map b).all id = l.all b := by rw [List.all_map]; rfl
  rw [e2]
  exact q
theorem g_gtup2 {T : Addr} {x y : V} {i j : Nat} {Qs : L2.St → Hp → Prop} (h : SqT K H T [x, y]) (q : Qs ((σ.set i (some x)).set j (some y)) H) : gTup K 2 (gCons (gName i) (gCons (gName j) gNil)) (.ref T) σ H Qs :=
  ⟨T, [x, y], rfl, h, rfl, x, [y], rfl, y, [], rfl, rfl, q⟩
def rFmt (Q : VK) : VK := fun x H1 => (∃ y : Str, x = .str y ∧ y.length ≤ sizeLine ∧ Q (.str y) H1) ∨ ∃ i : Int, x = .int i ∧ i.natAbs.log2 < 1920 ∧ Q (.str (toString i)) H1
theorem g_fmt (q : te σ H (rFmt Q)) : tFmt te σ H Q := q
instance wk_g_fmt : Wk (tFmt te σ H Q) (te σ H (rFmt Q)) := ⟨fun q_ => g_fmt q_⟩
theorem g_fmtI {i : Int} (h : i.natAbs.log2 < 1920) (q : Q (.str (toString i)) H) : rFmt Q (.int i) H := .inr ⟨i, rfl, h, q⟩
theorem g_fmtS {z : Str} (h : z.length ≤ sizeLine) (q : Q (.str z) H) : rFmt Q (.str z) H := .inl ⟨z, rfl, h, q⟩
theorem g_jsN {acc : Str} {R : Str → Hp → Prop} (q : R acc H) : tJs [] acc σ H R := q
instance wk_g_jsN {acc : Str} {R : Str → Hp → Prop} : Wk (tJs [] acc σ H R) (R acc H) := ⟨fun q_ => g_jsN q_⟩
theorem g_jsC {t : TE} {ts : List TE} {acc : Str} {R : Str → Hp → Prop} (q : t σ H fun x H1 => ∃ y : Str, x = .str y ∧ (acc ++ y).length ≤ sizeLine ∧ tJs ts (acc ++ y) σ H1 R) : tJs (t :: ts) acc σ H R := q
instance wk_g_jsC {t : TE} {ts : List TE} {acc : Str} {R : Str → Hp → Prop} : Wk (tJs (t :: ts) acc σ H R) (t σ H fun x H1 => ∃ y : Str, x = .str y ∧ (acc ++ y).length ≤ sizeLine ∧ tJs ts (acc ++ y) σ H1 R) := ⟨fun q_ => g_jsC q_⟩
theorem g_jsS {acc s : Str} {P : Str → Prop} (h : (acc ++ s).length ≤ sizeLine) (q : P s) : ∃ y, V.str s = .str y ∧ (acc ++ y).length ≤ sizeLine ∧ P y := ⟨s, rfl, h, q⟩
theorem log_small {i : Int} (h : i.natAbs < 2 ^ 64) : i.natAbs.log2 < 1920 := by
  by_cases h0 : i.natAbs = 0
  · rw [h0]; decide
  · have h1 := (Nat.log2_lt h0).mpr h
    omega
theorem len_app (a b : Str) : (a ++ b).length = a.length + b.length := by rw [len_tl, tl_append, List.length_append, ← len_tl, ← len_tl]
theorem tl_num' {i : Int} (h : 0 ≤ i) : tl (toString i : Str) = numL i.toNat := by
  obtain ⟨n, rfl⟩ := Int.eq_ofNat_of_zero_le h
  rw [Int.toNat_natCast]
  exact tl_num n
theorem len_num {i : Int} (h : 0 ≤ i) {k : Nat} (hk : 0 < k) (h1 : i.toNat < 10 ^ k) : (toString i : Str).length ≤ k := by
  rw [len_tl, tl_num' h]
  exact numL_len hk h1
end
section
variable {K : PySem.W.Frag} {H : Hp} {Q : VK} {i : Int} {z : Str} {p : Addr}
theorem g_isNi (q : Q (.bl false) H) : rIsN (.int i) .non H Q := ⟨rfl, q⟩
instance wk_g_isNi : Wk (rIsN (.int i) .non H Q) (Q (.bl false) H) := ⟨fun q_ => g_isNi q_⟩
theorem g_isNn (q : Q (.bl true) H) : rIsN .non .non H Q := ⟨rfl, q⟩
instance wk_g_isNn : Wk (rIsN .non .non H Q) (Q (.bl true) H) := ⟨fun q_ => g_isNn q_⟩
theorem g_isNr (q : Q (.bl false) H) : rIsN (.ref p) .non H Q := ⟨rfl, q⟩
instance wk_g_isNr : Wk (rIsN (.ref p) .non H Q) (Q (.bl false) H) := ⟨fun q_ => g_isNr q_⟩
theorem g_isNs (q : Q (.bl false) H) : rIsN (.str z) .non H Q := ⟨rfl, q⟩
instance wk_g_isNs : Wk (rIsN (.str z) .non H Q) (Q (.bl false) H) := ⟨fun q_ => g_isNs q_⟩
theorem g_ntNi (q : Q (.bl true) H) : rNotN (.int i) .non H Q := ⟨rfl, q⟩
instance wk_g_ntNi : Wk (rNotN (.int i) .non H Q) (Q (.bl true) H) := ⟨fun q_ => g_ntNi q_⟩
theorem g_ntNn (q : Q (.bl false) H) : rNotN .non .non H Q := ⟨rfl, q⟩
instance wk_g_ntNn : Wk (rNotN .non .non H Q) (Q (.bl false) H) := ⟨fun q_ => g_ntNn q_⟩
theorem g_ntNr (q : Q (.bl true) H) : rNotN (.ref p) .non H Q := ⟨rfl, q⟩
instance wk_g_ntNr : Wk (rNotN (.ref p) .non H Q) (Q (.bl true) H) := ⟨fun q_ => g_ntNr q_⟩
theorem g_ntNs (q : Q (.bl true) H) : rNotN (.str z) .non H Q := ⟨rfl, q⟩
instance wk_g_ntNs : Wk (rNotN (.str z) .non H Q) (Q (.bl true) H) := ⟨fun q_ => g_ntNs q_⟩
theorem at_ints {ns : List Int} {i : Int} (h0 : 0 ≤ i) (h1 : i < ns.length) : atI (ns.map V.int) i = some (.int (ns.getD i.toNat 0)) := by
  obtain ⟨n, rfl⟩ := Int.eq_ofNat_of_zero_le h0
  refine atI_nat ?_
  have hn : n < ns.length := by omega
  rw [List.getElem?_map, List.getElem?_eq_getElem hn, Int.toNat_natCast, List.getD_eq_getElem?_getD, List.getElem?_eq_getElem hn]
  rfl
end
theorem join_signs (l : List Nat) : Txt.join "" (l.map fun c => (⟨#[c]⟩ : Str)) = stxt l := by
  refine ext_tl ?_
  rw [tl_glue, tl_stxt, List.map_map]
  induction l with
  | nil => rfl
  | cons c r ih => rw [List.map_cons, List.flatten_cons, ih]; rfl
theorem len_sing (c : Nat) : (⟨#[c]⟩ : Str).length = 1 := rfl
theorem g_joinC {K : PySem.W.Frag} {H : Hp} {Q : VK} {p : Addr} {l : List Nat} (h : SqL K H p (l.map fun c => V.str ⟨#[c]⟩)) (hl : l.length ≤ 1000000) (q : Q (.str (stxt l)) H) : rJoin K (.str "") [.ref p] H Q := by
  have e : (l.map fun c => V.str ⟨#[c]⟩) = (l.map fun c => (⟨#[c]⟩ : Str)).map V.str := by rw [List.map_map]; rfl
  rw [e] at h
  refine g_join h ?_ (by rw [join_signs]; exact q)
  have e1 : ((l.map fun c => (⟨#[c]⟩ : Str)).map (·.length)).sum = l.length := by
    rw [List.map_map]
    clear h e hl q
    induction l with
    | nil => rfl
    | cons c r ih =>
      rw [List.map_cons, List.sum_cons, ih, List.length_cons]
      show 1 + r.length = r.length + 1
      omega
  rw [e1, show ("" : Str).length = 0 by decide +kernel]
  omega
theorem at_codes {l : List Nat} {i : Int} (h0 : 0 ≤ i) (h1 : i < l.length) : atI l i = some (l.getD i.toNat 0) := by
  obtain ⟨n, rfl⟩ := Int.eq_ofNat_of_zero_le h0
  refine atI_nat ?_
  have hn : n < l.length := by omega
  rw [List.getElem?_eq_getElem hn, Int.toNat_natCast, List.getD_eq_getElem?_getD, List.getElem?_eq_getElem hn]
  rfl
def repS (n : Nat) (z : Str) : Str := stxt (List.replicate n (tl z)).flatten
theorem fold_rep (z : Array Nat) : ∀ (n : Nat) (acc : Array Nat), ((List.replicate n z).foldl (· ++ ·) acc).toList = acc.toList ++ (List.replicate n z.toList).flatten
  | 0, acc => by simp
  | n + 1, acc => by
    rw [List.replicate_succ, List.foldl_cons, fold_rep z n, List.replicate_succ, List.flatten_cons, Array.toList_append, List.append_assoc]
def rMulS : R2 := fun x y H Q => ∃ (z : Str) (n : Int), x = .str z ∧ y = .int n ∧ 0 ≤ n ∧ n ≤ 100000 ∧ z.length * n.toNat ≤ 1000000 ∧ Q (.str (repS n.toNat z)) H
theorem op_mulSN {X : Cx} : OpR X (binaryOp .Mult) rMulS := by
  intro pins s σ H x y v u Q I rx ry h
  obtain ⟨z, n, rfl, rfl, h0, h1, hz, q⟩ := h
  obtain ⟨t, rfl⟩ := rx
  obtain ⟨t', rfl⟩ := ry
  have hr : (decide (n < -(2 ^ 63 : Int)) || decide (n ≥ 2 ^ 63)) = false := by
    rw [decide_eq_false (by omega), decide_eq_false (by omega)]; rfl
  refine PySem.P.mul_str hr (fun hn _ => ?_) (fun hn _ => ?_) ?_
  · have hle : (z.length : Int) ≤ (2 ^ 63 - 1) / n := (Int.le_ediv_iff_mul_le (show 0 < n by omega)).mpr (by
      have e1 : ((z.length * n.toNat : Nat) : Int) = (z.length : Int) * n := by
        rw [Int.natCast_mul, Int.toNat_of_nonneg h0]
      omega)
    omega
  · unfold Builtin.Str.tooLong
    refine decide_eq_false ?_
    have : 1000000 ≤ sizeLine := by decide
    omega
  · by_cases hn : n < 1
    · rw [if_pos hn]
      have e : repS n.toNat z = Str.empty := by
        have : n.toNat = 0 := by omega
        rw [this]; rfl
      rw [e] at q
      exact ⟨by decide, .str Str.empty, H, I.tok _, ⟨_, rfl⟩, q⟩
    · rw [if_neg hn]
      by_cases h2 : (n == 1 || z.length == 0) = true
      · rw [if_pos h2]
        have e : repS n.toNat z = z := by
          rcases (Bool.or_eq_true _ _).mp h2 with h3 | h3
          · have : n.toNat = 1 := by have := eq_of_beq h3; omega
            rw [this]
            refine ext_tl ?_
            show (List.replicate 1 (tl z)).flatten = tl z
            simp
          · have h4 : (tl z).length = 0 := by rw [← len_tl]; exact eq_of_beq h3
            have h5 : tl z = [] := List.eq_nil_of_length_eq_zero h4
            refine ext_tl ?_
            show (List.replicate n.toNat (tl z)).flatten = tl z
            rw [h5]; simp
        rw [e] at q
        exact ⟨.str z, H, I, ⟨_, rfl⟩, q⟩
      · rw [if_neg h2]
        have e : (⟨(List.replicate n.toNat z.cps).foldl (· ++ ·) #[]⟩ : Str) = repS n.toNat z := ext_tl (by
          show ((List.replicate n.toNat z.cps).foldl (· ++ ·) #[]).toList = _
          rw [fold_rep]; rfl)
        rw [e]
        refine ⟨?_, .str (repS n.toNat z), H, I.tok _, ⟨_, rfl⟩, q⟩
        refine fits_of ?_
        have e2 : (repS n.toNat z).length = n.toNat * z.length := by
          unfold repS
          rw [len_stxt, len_tl]
          simp
        rw [e2, Nat.mul_comm]
        exact hz
theorem g_mulS {H : Hp} {Q : VK} {z : Str} {n : Int} (h : 0 ≤ n ∧ n ≤ 100000) (hz : z.length * n.toNat ≤ 1000000) (q : Q (.str (repS n.toNat z)) H) : rMulS (.str z) (.int n) H Q := ⟨z, n, rfl, rfl, h.1, h.2, hz, q⟩
theorem g_cat {H : Hp} {Q : VK} {l b : Addr} {xs zs : List V} (h : H l = some (.lst xs)) (h' : H b = some (.lst zs)) (hz : xs.length + zs.length ≤ sizeLine) (q : ∀ p, H p = none → Q (.ref p) (upd H p (.lst (xs ++ zs)))) : rCat (.ref l) (.ref b) H Q := ⟨l, b, xs, zs, rfl, rfl, h, h', hz, q⟩
theorem strOk_of {l : List Nat} (h : ∀ c ∈ l, c ≤ 1000000) : PyData.strOk (stxt l) = true := by
  unfold PyData.strOk
  simp [stxt]
  intro x hx
  have := h x hx
  omega
/-! ### F. records: the plain law -/
theorem numL_head {n : Nat} (h : 0 < n) : ∃ c r, numL n = c :: r ∧ c ≠ 48 := by
  induction n using Nat.strongRecOn with
  | _ n ih =>
    by_cases h1 : n < 10
    · exact ⟨48 + n, [], numL_lt h1, by omega⟩
    · obtain ⟨c, r, e, hc⟩ := ih (n / 10) (by omega) (by omega)
      exact ⟨c, r ++ [48 + n % 10], by rw [numL_step (by omega), e]; rfl, hc⟩
/-- the number that a part writes with at most k digits -/
def numOf (k : Int) (l : List Nat) : Option Int :=
  if 1 ≤ l.length ∧ (l.length : Int) ≤ k ∧ (∀ c ∈ l, 48 ≤ c ∧ c ≤ 57) ∧ ¬ (1 < l.length ∧ l.head? = some 48) then some ((NumText.digitsVal l : Nat) : Int) else none
theorem numOf_numL {n k : Nat} (hk : 0 < k) (h : n < 10 ^ k) : numOf k (numL n) = some (n : Int) := by
  have h1 : (numL n).length ≤ k := numL_len hk h
  have h2 : 1 ≤ (numL n).length := by
    cases e : numL n with
    | nil => exact absurd e (numL_ne n)
    | cons c r => simp
  have hz : ¬ (1 < (numL n).length ∧ (numL n).head? = some 48) := by
    rintro ⟨hl, hh⟩
    by_cases h0 : 0 < n
    · obtain ⟨c, r, e, hc⟩ := numL_head h0
      rw [e] at hh
      exact hc (Option.some.inj hh)
    · have e0 : n = 0 := by omega
      subst e0
      rw [numL_lt (by decide)] at hl
      simp at hl
  unfold numOf
  rw [if_pos ⟨h2, by omega, numL_digits n, hz⟩, numL_val]
/-! the mirror of records -/
/-! heads that are none -/
/-! ### more steps: dicts with texts as keys, isinstance, str of a part, slices of tuples -/
section
variable {X : Cx} {K : PySem.W.Frag} {H : Hp} {Q : VK} {σ : L2.St} {D : Ends}
theorem q_of {R : VK} {H H0 : Hp} {b c : Bool} (q : ∀ H', Ex H0 H' → R (.bl c) H') (x : Ex H0 H) (e : c = b) : R (.bl b) H := by rw [← e]; exact q H x
def rIEn (K : PySem.W.Frag) (R : It → Hp → Prop) : List V → Hp → Prop := fun vs H1 => ∃ a xs, vs = [.ref a] ∧ SqL K H1 a xs ∧ R (Ite K a) H1
theorem g_iEnum {ta : TA} {R : It → Hp → Prop} (q : ta σ H (rIEn K R)) : iEnum K ta σ H R := q
instance wk_g_iEnum {ta : TA} {R : It → Hp → Prop} : Wk (iEnum K ta σ H R) (ta σ H (rIEn K R)) := ⟨fun q_ => g_iEnum q_⟩
theorem g_enL {R : It → Hp → Prop} {a : Addr} {xs : List V} (h : SqL K H a xs) (q : R (Ite K a) H) : rIEn K R [.ref a] H := ⟨a, xs, rfl, h, q⟩
def rListOf (K : PySem.W.Frag) : List V → Hp → VK → Prop := fun xs H Q => ∃ p ys, xs = [.ref p] ∧ (SqL K H p ys ∨ SqT K H p ys) ∧ ∀ l, H l = none → Q (.ref l) (upd H l (.lst ys))
theorem call_listK (h : X.K = K) : CallR X (.type "list") (rListOf K) := by subst h; exact call_list_of
theorem g_listL {p : Addr} {ys : List V} (h : SqL K H p ys) (q : ∀ l, H l = none → Q (.ref l) (upd H l (.lst ys))) : rListOf K [.ref p] H Q := ⟨p, ys, rfl, .inl h, q⟩
theorem g_listT {p : Addr} {ys : List V} (h : SqT K H p ys) (q : ∀ l, H l = none → Q (.ref l) (upd H l (.lst ys))) : rListOf K [.ref p] H Q := ⟨p, ys, rfl, .inr h, q⟩
theorem g_dnew (q : ∀ p, H p = none → Q (.ref p) (upd H p (.dK []))) : tDNewK σ H Q := q
def rDIn : V → V → Hp → VK → Prop := fun y x H Q => ∃ a o, x = .ref a ∧ DGet H a y o ∧ Q (.bl o.isSome) H
theorem g_din {ty td : TE} (q : ty σ H fun y H1 => td σ H1 fun x H2 => rDIn y x H2 Q) : tDIn ty td σ H Q := q
instance wk_g_din {ty td : TE} : Wk (tDIn ty td σ H Q) (ty σ H fun y H1 => td σ H1 fun x H2 => rDIn y x H2 Q) := ⟨fun q_ => g_din q_⟩
def rDNin : V → V → Hp → VK → Prop := fun y x H Q => ∃ a o, x = .ref a ∧ DGet H a y o ∧ Q (.bl (!o.isSome)) H
theorem g_dnin {ty td : TE} (q : ty σ H fun y H1 => td σ H1 fun x H2 => rDNin y x H2 Q) : tDNotIn ty td σ H Q := q
instance wk_g_dnin {ty td : TE} : Wk (tDNotIn ty td σ H Q) (ty σ H fun y H1 => td σ H1 fun x H2 => rDNin y x H2 Q) := ⟨fun q_ => g_dnin q_⟩
theorem g_dinS {a : Addr} {kvs : List (Key × V)} {z : Str} (h : H a = some (.dK kvs)) (q : Q (.bl (valV kvs (Sum.inr z)).isSome) H) : rDIn (.str z) (.ref a) H Q := ⟨a, _, rfl, DGet.k (k := Sum.inr z) h, q⟩
theorem g_dninS {a : Addr} {kvs : List (Key × V)} {z : Str} (h : H a = some (.dK kvs)) (q : Q (.bl (!(valV kvs (Sum.inr z)).isSome)) H) : rDNin (.str z) (.ref a) H Q := ⟨a, _, rfl, DGet.k (k := Sum.inr z) h, q⟩
def rDPut (D : Ends) (σ : L2.St) : V → V → V → Hp → Prop := fun v x y H3 => ∃ a H4, x = .ref a ∧ DPut H3 a y v H4 ∧ D.nx σ H4
theorem g_dput {td ty tv : TE} (q : tv σ H fun v H1 => td σ H1 fun x H2 => ty σ H2 fun y H3 => rDPut D σ v x y H3) : sDPut td ty tv D σ H := q
instance wk_g_dput {td ty tv : TE} : Wk (sDPut td ty tv D σ H) (tv σ H fun v H1 => td σ H1 fun x H2 => ty σ H2 fun y H3 => rDPut D σ v x y H3) := ⟨fun q_ => g_dput q_⟩
theorem g_dputS {a : Addr} {kvs : List (Key × V)} {z : Str} {v : V} (h : H a = some (.dK kvs)) (hz : kvs.length < sizeLine) (q : D.nx σ (upd H a (.dK (putK kvs (Sum.inr z) v)))) : rDPut D σ v (.ref a) (.str z) H :=
  ⟨a, _, rfl, DPut.k (k := Sum.inr z) h hz, q⟩
theorem g_eqB {b c : Bool} (q : Q (.bl (decide (b = c))) H) : rEq (.bl b) (.bl c) H Q := ⟨rfl, by
  have e : decide (V.bl b = V.bl c) = decide (b = c) := by rw [Bool.eq_iff_iff]; simp
  rw [e]; exact q⟩
instance wk_g_eqB {b c : Bool} : Wk (rEq (.bl b) (.bl c) H Q) (Q (.bl (decide (b = c))) H) := ⟨fun q_ => g_eqB q_⟩
theorem g_neB {b c : Bool} (q : Q (.bl (!decide (b = c))) H) : rNe (.bl b) (.bl c) H Q := ⟨rfl, by
  have e : decide (V.bl b = V.bl c) = decide (b = c) := by rw [Bool.eq_iff_iff]; simp
  rw [e]; exact q⟩
instance wk_g_neB {b c : Bool} : Wk (rNe (.bl b) (.bl c) H Q) (Q (.bl (!decide (b = c))) H) := ⟨fun q_ => g_neB q_⟩
theorem kit_str_str : kitB "str" "str" = some true := by decide +kernel
theorem kit_str_int : kitB "str" "int" = some false := by decide +kernel
theorem kit_str_bool : kitB "str" "bool" = some false := by decide +kernel
theorem kit_str_tuple : kitB "str" "tuple" = some false := by decide +kernel
theorem kit_str_list : kitB "str" "list" = some false := by decide +kernel
theorem kit_str_dict : kitB "str" "dict" = some false := by decide +kernel
theorem kit_int_str : kitB "int" "str" = some false := by decide +kernel
theorem kit_int_int : kitB "int" "int" = some true := by decide +kernel
theorem kit_int_bool : kitB "int" "bool" = some false := by decide +kernel
theorem kit_int_tuple : kitB "int" "tuple" = some false := by decide +kernel
theorem kit_int_list : kitB "int" "list" = some false := by decide +kernel
theorem kit_int_dict : kitB "int" "dict" = some false := by decide +kernel
theorem kit_bool_str : kitB "bool" "str" = some false := by decide +kernel
theorem kit_bool_int : kitB "bool" "int" = some true := by decide +kernel
theorem kit_bool_bool : kitB "bool" "bool" = some true := by decide +kernel
theorem kit_bool_tuple : kitB "bool" "tuple" = some false := by decide +kernel
theorem kit_bool_list : kitB "bool" "list" = some false := by decide +kernel
theorem kit_bool_dict : kitB "bool" "dict" = some false := by decide +kernel
theorem kit_NoneType_str : kitB "NoneType" "str" = some false := by decide +kernel
theorem kit_NoneType_int : kitB "NoneType" "int" = some false := by decide +kernel
theorem kit_NoneType_bool : kitB "NoneType" "bool" = some false := by decide +kernel
theorem kit_NoneType_tuple : kitB "NoneType" "tuple" = some false := by decide +kernel
theorem kit_NoneType_list : kitB "NoneType" "list" = some false := by decide +kernel
theorem kit_NoneType_dict : kitB "NoneType" "dict" = some false := by decide +kernel
theorem kit_tuple_str : kitB "tuple" "str" = some false := by decide +kernel
theorem kit_tuple_int : kitB "tuple" "int" = some false := by decide +kernel
theorem kit_tuple_bool : kitB "tuple" "bool" = some false := by decide +kernel
theorem kit_tuple_tuple : kitB "tuple" "tuple" = some true := by decide +kernel
theorem kit_tuple_list : kitB "tuple" "list" = some false := by decide +kernel
theorem kit_tuple_dict : kitB "tuple" "dict" = some false := by decide +kernel
theorem kit_list_str : kitB "list" "str" = some false := by decide +kernel
theorem kit_list_int : kitB "list" "int" = some false := by decide +kernel
theorem kit_list_bool : kitB "list" "bool" = some false := by decide +kernel
theorem kit_list_tuple : kitB "list" "tuple" = some false := by decide +kernel
theorem kit_list_list : kitB "list" "list" = some true := by decide +kernel
theorem kit_list_dict : kitB "list" "dict" = some false := by decide +kernel
/-- isinstance(x, T), T a built-in class -/
def rInst (K : PySem.W.Frag) : List V → Hp → VK → Prop := fun xs H Q => ∃ (x : V) (t n : String) (b : Bool), xs = [x, .ty n] ∧ TyX K H x (.type t) ∧ kitB t n = some b ∧ Q (.bl b) H
theorem call_instK (h : X.K = K) : CallR X (.builtin "isinstance") (rInst K) := by
  subst h
  intro pins s σ H xs us Q I r ⟨x, t, n, b, e, ty, k, q⟩
  exact call_isi pins s σ H xs us Q I r ⟨x, .ty n, .type t, .type n, b, e, .ty n, ty, kit_ty k, q⟩
theorem g_instS {z : Str} {n : String} {b : Bool} (k : kitB "str" n = some b) (q : Q (.bl b) H) : rInst K [.str z, .ty n] H Q := ⟨_, _, n, b, rfl, .base (.str z), k, q⟩
theorem g_instI {i : Int} {n : String} {b : Bool} (k : kitB "int" n = some b) (q : Q (.bl b) H) : rInst K [.int i, .ty n] H Q := ⟨_, _, n, b, rfl, .base (.int i), k, q⟩
theorem g_instB {i : Bool} {n : String} {b : Bool} (k : kitB "bool" n = some b) (q : Q (.bl b) H) : rInst K [.bl i, .ty n] H Q := ⟨_, _, n, b, rfl, .base (.bl i), k, q⟩
theorem g_instN {n : String} {b : Bool} (k : kitB "NoneType" n = some b) (q : Q (.bl b) H) : rInst K [.non, .ty n] H Q := ⟨_, _, n, b, rfl, .base .non, k, q⟩
theorem g_instT {p : Addr} {xs : List V} {n : String} {b : Bool} (h : SqT K H p xs) (k : kitB "tuple" n = some b) (q : Q (.bl b) H) : rInst K [.ref p, .ty n] H Q := by
  refine ⟨_, "tuple", n, b, rfl, ?_, k, q⟩
  rcases h with (h | ⟨o, h⟩) | ⟨o, its, m, h, hc, _⟩
  · exact .base (.tup h)
  · exact .fTuple h
  · exact .kTuple h hc
theorem g_instL {p : Addr} {xs : List V} {n : String} {b : Bool} (h : SqL K H p xs) (k : kitB "list" n = some b) (q : Q (.bl b) H) : rInst K [.ref p, .ty n] H Q := by
  refine ⟨_, "list", n, b, rfl, ?_, k, q⟩
  rcases h with (h | ⟨o, h⟩) | ⟨o, its, m, h, hc, _⟩
  · exact .base (.lst h)
  · exact .base (.frz h)
  · exact .kList h hc
/-- str(x) of a whole number or a text -/
def rStrV : List V → Hp → VK → Prop := fun xs H Q => (∃ i : Int, xs = [.int i] ∧ i.natAbs.log2 < 1920 ∧ Q (.str (toString i)) H) ∨ ∃ a : Str, xs = [.str a] ∧ Q (.str a) H
theorem call_strV : CallR X (.type "str") rStrV := by
  intro pins s σ H xs us Q I r h
  rcases h with h | h
  · exact call_str_int pins s σ H xs us Q I r h
  · exact SkE.call_str_str pins s σ H xs us Q I r h
def partS : V → Str
  | .str s => s
  | .int i => toString i
  | _ => ""
/-- a part of an entry: a plain text or a number of at most ten digits -/
def IsPart (v : V) : Prop := (∃ z : Str, v = .str z ∧ z.length ≤ 20 ∧ ∀ c ∈ tl z, 33 ≤ c ∧ c ≤ 126) ∨ ∃ i : Int, v = .int i ∧ 0 ≤ i ∧ i ≤ 9999999999
theorem IsPart.len {v : V} (h : IsPart v) : (partS v).length ≤ 20 := by
  rcases h with ⟨z, rfl, hz, _⟩ | ⟨i, rfl, h0, h1⟩
  · exact hz
  · exact Nat.le_trans (len_num (k := 10) h0 (by decide) (by omega)) (by decide)
theorem IsPart.plain {v : V} (h : IsPart v) : ∀ c ∈ tl (partS v), 33 ≤ c ∧ c ≤ 126 := fun c hc => by
  rcases h with ⟨z, rfl, _, hz⟩ | ⟨i, rfl, h0, h1⟩
  · exact hz c hc
  · have hc' : c ∈ tl (toString i : Str) := hc
    rw [tl_num' h0] at hc'
    have := numL_digits _ c hc'
    omega
theorem g_strP {v : V} (h : IsPart v) (q : Q (.str (partS v)) H) : rStrV [v] H Q := by
  rcases h with ⟨z, rfl, _, _⟩ | ⟨i, rfl, h0, h1⟩
  · exact .inr ⟨z, rfl, q⟩
  · exact .inl ⟨i, rfl, log_small (by omega), q⟩
theorem g_slT {p : Addr} {xs : List V} {lo hi : Option Int} (h : SqT K H p xs) (hw : ¬ (HT.sIx xs.length 0 lo = 0 ∧ HT.sIx xs.length xs.length hi = xs.length)) (q : ∀ p, H p = none → Q (.ref p) (upd H p (.tup (cutV xs lo hi)))) : rSlT K (.ref p) lo hi H Q :=
  ⟨p, xs, rfl, h, hw, q⟩
theorem g_slT1 {p : Addr} {v w : V} {r : List V} (h : SqT K H p (v :: w :: r)) (q : ∀ p, H p = none → Q (.ref p) (upd H p (.tup [v]))) : rSlT K (.ref p) none (some 1) H Q := by
  refine g_slT h (fun z => ?_) (fun p hp => ?_)
  · have h2 := z.2
    rw [show (1 : Int) = ((1 : Nat) : Int) from rfl, HT.sIx_nat, List.length_cons, List.length_cons] at h2
    omega
  · have e : cutV (v :: w :: r) none (some 1) = [v] := by rw [cutV_to _ (by decide)]; rfl
    rw [e]; exact q p hp
theorem g_slTt {p : Addr} {v : V} {r : List V} (h : SqT K H p (v :: r)) (q : ∀ p, H p = none → Q (.ref p) (upd H p (.tup r))) : rSlT K (.ref p) (some 1) none H Q := by
  refine g_slT h (fun z => ?_) (fun p hp => ?_)
  · have h2 := z.1
    rw [show (1 : Int) = ((1 : Nat) : Int) from rfl, HT.sIx_nat, List.length_cons] at h2
    omega
  · have e : cutV (v :: r) (some 1) none = r := by rw [cutV_from _ (by decide)]; rfl
    rw [e]; exact q p hp
theorem g_eqD {x y : V} (d e : PyData) (b : Bool) (h1 : Dp K H x d) (h2 : Dp K H y e) (s1 : SeqAt.shaped d = true) (s2 : SeqAt.shaped e = true) (hb : PyData.eqv d e = b) (q : Q (.bl b) H) : rEqD K x y H Q := ⟨d, e, h1, h2, s1, s2, by rw [hb]; exact q⟩
theorem g_neD {x y : V} (d e : PyData) (b : Bool) (h1 : Dp K H x d) (h2 : Dp K H y e) (s1 : SeqAt.shaped d = true) (s2 : SeqAt.shaped e = true) (hb : (!PyData.eqv d e) = b) (q : Q (.bl b) H) : rNeD K x y H Q := ⟨d, e, h1, h2, s1, s2, by rw [hb]; exact q⟩
theorem sqT_upd {l p : Addr} {xs vs : List V} {o : HO} (hl : H l = some (.lst xs)) (h : SqT K H p vs) : SqT K (upd H l o) p vs := by
  rcases h with (h | ⟨o', h⟩) | h
  · exact .inl (.inl (by rw [upd_ne (fun e => by rw [e, hl] at h; cases h)]; exact h))
  · exact .inl (.inr ⟨o', by rw [upd_ne (fun e => by rw [e, hl] at h; cases h)]; exact h⟩)
  · exact .inr h
end
/-! ### a comprehension over a tuple -/
section
variable {K : PySem.W.Frag} {H : Hp} {Q : VK} {σ : L2.St} {g : TG} {te : TE} {vs : List Nat}
theorem lc_tup {a : Addr} {xs : List V} (f : V → V) (hS : SqT K H a xs) (hn : xs.length ≤ 1000000)
    (hs : ∀ x ∈ xs, ∀ H1, Ex H H1 → ∀ R : VK, (∀ H3, Ex H1 H3 → R (f x) H3) → g x (wipe σ vs) H1 fun σ2 H3 => wipe σ2 vs = wipe σ vs ∧ te σ2 H3 R)
    (hq : ∀ p H', H p = none → Ex H H' → H' p = some (.lst (xs.map f)) → Q (.ref p) H') : LcOk (Itt K a) g tYes te vs Q σ H := by
  refine lc_pure (walk_tup (xs := xs)) (fun i => f (xs.getD i .non)) (fits_lt hn) (fun H' e => ex_sqT e hS) (fun i x H1 H2 hi hE hY R hR => ?_) (fun i H1 x H2 hY => ?_) (fun p H' hp hE hL => ?_)
  · obtain ⟨rfl, hx⟩ := hY
    have e2 : xs.getD i .non = x := by rw [List.getD_eq_getElem?_getD, hx]; rfl
    exact hs x (List.mem_of_getElem? hx) H2 hE R fun H3 h3 => by
      have q := hR H3 h3
      simp only [e2] at q
      exact q
  · obtain ⟨rfl, _⟩ := hY
    exact Evl.Ex.refl _
  · refine hq p H' hp hE ?_
    rw [hL, map_getD]
end
/-! ### the plain law of entries -/
theorem joinL_cons (S p : List Nat) (q : List Nat) (r : List (List Nat)) : joinL S (p :: q :: r) = p ++ S ++ joinL S (q :: r) := by
  simp [joinL]
def glueP (z : Str) : List V → Str
  | [] => z
  | v :: r => glueP (z ++ " " ++ partS v) r
theorem tl_glueP : ∀ (r : List V) (z : Str), tl (glueP z r) = joinL [32] (tl z :: r.map fun v => tl (partS v))
  | [], z => by simp [glueP, joinL]
  | v :: r, z => by
    show tl (glueP (z ++ " " ++ partS v) r) = _
    rw [tl_glueP r, List.map_cons]
    cases r with
    | nil => simp [joinL, tl_append]; rfl
    | cons w r =>
      rw [List.map_cons, joinL_cons, joinL_cons, joinL_cons, tl_append, tl_append]
      simp only [List.append_assoc]
      rfl
theorem glueP_join (z : Str) (r : List V) : glueP z r = Txt.join " " (z :: r.map partS) := by
  refine ext_tl ?_
  rw [tl_glueP, join_eq, tl_join, List.map_cons, List.map_map]
  rfl
theorem glueP_len : ∀ (r : List V) (z : Str), (∀ v ∈ r, IsPart v) → (glueP z r).length ≤ z.length + 21 * r.length
  | [], z, _ => Nat.le_refl _
  | v :: r, z, h => by
    have h1 := glueP_len r (z ++ " " ++ partS v) fun w hw => h w (.tail _ hw)
    have h2 := (h v (.head _)).len
    rw [len_app, len_app, show (" " : Str).length = 1 from rfl] at h1
    rw [List.length_cons]
    show (glueP (z ++ " " ++ partS v) r).length ≤ _
    omega
theorem joinL_ge {S : List Nat} : ∀ {ps : List (List Nat)} {p : List Nat}, p ∈ ps → p.length ≤ (joinL S ps).length
  | [], p, h => by cases h
  | [q], p, h => by
    have e : p = q := by simpa using h
    rw [e]; simp [joinL]
  | a :: q :: r, p, h => by
    rw [joinL_cons, List.length_append, List.length_append]
    rcases List.mem_cons.mp h with rfl | h
    · omega
    · have := joinL_ge (S := S) h
      omega
theorem split_le (z y : Str) : ∀ p ∈ Txt.split z y, p.length ≤ z.length := fun p hp => by
  have h := StrLaws.join_split z y
  have h1 := congrArg (fun x => (tl x).length) h
  have h2 : (joinL (tl y) ((Txt.split z y).map tl)).length = (tl z).length := by rw [← tl_join]; exact h1
  have h3 := joinL_ge (S := tl y) (List.mem_map_of_mem (f := tl) hp)
  rw [len_tl, len_tl]
  omega
inductive Ent where
  | ask (k g : Str) (c m : Int)
  | rel (k : Str) (m : Int)
namespace Ent
def vs : Ent → List V
  | .ask k g c m => [.str "ask", .str k, .str g, .int c, .int m]
  | .rel k m => [.str "release", .str k, .int m]
def key : Ent → Str
  | .ask k _ _ _ => k
  | .rel k _ => k
def mom : Ent → Int
  | .ask _ _ _ m => m
  | .rel _ m => m
def isAsk : Ent → Bool
  | .ask _ _ _ _ => true
  | .rel _ _ => false
def line (e : Ent) : Str := Txt.join " " (e.vs.map partS)
def data : Ent → PyData
  | .ask k g c m => .tuple [.str "ask", .str k, .str g, .int c, .int m]
  | .rel k m => .tuple [.str "release", .str k, .int m]
end Ent
def inLet (c : Nat) : Bool := decide (c ∈ ("abcdefghijklmnopqrstuvwxyz0123456789" : Str).cps.toList)
def isName (z : Str) : Bool := decide (1 ≤ (z.length : Int)) && decide ((z.length : Int) ≤ 12) && (tl z).all inLet
def isKey (z : Str) : Bool := decide (1 ≤ (z.length : Int)) && decide ((z.length : Int) ≤ 20) && (tl z).all fun c => inLet c || decide (c = 45)
theorem inLet_plain {c : Nat} (h : inLet c = true) : 33 ≤ c ∧ c ≤ 126 := by
  have h1 : ∀ c ∈ ("abcdefghijklmnopqrstuvwxyz0123456789" : Str).cps.toList, 33 ≤ c ∧ c ≤ 126 := by decide +kernel
  exact h1 c (of_decide_eq_true h)
theorem isName_part {z : Str} (h : isName z = true) : IsPart (.str z) := by
  unfold isName at h
  rw [Bool.and_eq_true, Bool.and_eq_true] at h
  have h1 := of_decide_eq_true h.1.2
  exact .inl ⟨z, rfl, by omega, fun c hc => inLet_plain (List.all_eq_true.mp h.2 c hc)⟩
theorem isKey_part {z : Str} (h : isKey z = true) : IsPart (.str z) := by
  unfold isKey at h
  rw [Bool.and_eq_true, Bool.and_eq_true] at h
  have h1 := of_decide_eq_true h.1.2
  refine .inl ⟨z, rfl, by omega, fun c hc => ?_⟩
  have h2 := List.all_eq_true.mp h.2 c hc
  rw [Bool.or_eq_true] at h2
  rcases h2 with h2 | h2
  · exact inLet_plain h2
  · have := of_decide_eq_true h2; omega
def Ent.ok : Ent → Bool
  | .ask k g c m => isKey k && (isName g && ((decide (1 ≤ c) && decide (c ≤ 1000)) && (decide (0 ≤ m) && decide (m ≤ 1000000000))))
  | .rel k m => isKey k && (decide (0 ≤ m) && decide (m ≤ 1000000000))
theorem Ent.ok_parts {e : Ent} (h : e.ok = true) : ∀ v ∈ e.vs, IsPart v := by
  cases e with
  | ask k g c m =>
    simp only [Ent.ok, Bool.and_eq_true, decide_eq_true_eq] at h
    obtain ⟨hk, hg, ⟨hc0, hc1⟩, hm0, hm1⟩ := h
    intro v hv
    simp only [Ent.vs, List.mem_cons, List.not_mem_nil, or_false] at hv
    rcases hv with rfl | rfl | rfl | rfl | rfl
    · exact .inl ⟨_, rfl, by decide +kernel, by decide +kernel⟩
    · exact isKey_part hk
    · exact isName_part hg
    · exact .inr ⟨c, rfl, by omega, by omega⟩
    · exact .inr ⟨m, rfl, by omega, by omega⟩
  | rel k m =>
    simp only [Ent.ok, Bool.and_eq_true, decide_eq_true_eq] at h
    obtain ⟨hk, hm0, hm1⟩ := h
    intro v hv
    simp only [Ent.vs, List.mem_cons, List.not_mem_nil, or_false] at hv
    rcases hv with rfl | rfl | rfl
    · exact .inl ⟨_, rfl, by decide +kernel, by decide +kernel⟩
    · exact isKey_part hk
    · exact .inr ⟨m, rfl, by omega, by omega⟩
theorem Ent.vs_len (e : Ent) : e.vs.length ≤ 5 := by
  cases e with
  | ask k g c m => exact Nat.le_refl 5
  | rel k m => show 3 ≤ 5; decide
theorem Ent.line_eq (e : Ent) : ∃ z r, e.vs = .str z :: r ∧ e.line = glueP z r := by
  cases e with
  | ask k g c m => exact ⟨_, _, rfl, (glueP_join _ _).symm⟩
  | rel k m => exact ⟨_, _, rfl, (glueP_join _ _).symm⟩
theorem Ent.line_len {e : Ent} (h : e.ok = true) : e.line.length ≤ 120 := by
  obtain ⟨v, r, e1, e2⟩ := e.line_eq
  have hp := Ent.ok_parts h
  have hl := e.vs_len
  rw [e1] at hp hl
  rw [e2]
  have h1 := glueP_len r v fun w hw => hp w (.tail _ hw)
  have h2 : v.length ≤ 20 := (hp (.str v) (.head _)).len
  rw [List.length_cons] at hl
  omega
theorem joinL_mem {S : List Nat} : ∀ {ps : List (List Nat)} {c : Nat}, c ∈ joinL S ps → c ∈ S ∨ ∃ p ∈ ps, c ∈ p
  | [], c, h => by simp [joinL] at h
  | [p], c, h => .inr ⟨p, .head _, by simpa [joinL] using h⟩
  | p :: q :: r, c, h => by
    rw [joinL_cons, List.mem_append, List.mem_append] at h
    rcases h with (h | h) | h
    · exact .inr ⟨p, .head _, h⟩
    · exact .inl h
    · rcases joinL_mem h with h | ⟨x, hx, hc⟩
      · exact .inl h
      · exact .inr ⟨x, .tail _ hx, hc⟩
/-- a row: each entry is one, at moments that don't fall, keys asked once and released when asked -/
def lastM (es : List Ent) : Int := (es.getLast?.map Ent.mom).getD 0
def Row (es : List Ent) : Prop := ∀ i e, es[i]? = some e → e.ok = true ∧ lastM (es.take i) ≤ e.mom ∧ (e.isAsk = true ↔ e.key ∉ (es.take i).map Ent.key)
theorem Row.nil : Row [] := fun i e h => by simp at h
theorem Row.take {es : List Ent} (h : Row es) (n : Nat) : Row (es.take n) := fun i e hi => by
  have h1 : i < n ∧ es[i]? = some e := by
    rw [List.getElem?_take] at hi
    by_cases hn : i < n
    · rw [if_pos hn] at hi; exact ⟨hn, hi⟩
    · rw [if_neg hn] at hi; cases hi
  rw [List.take_take, Nat.min_eq_left (Nat.le_of_lt h1.1)]
  exact h i e h1.2
theorem Row.snoc {es : List Ent} (h : Row es) {e : Ent} (h1 : e.ok = true) (h2 : lastM es ≤ e.mom) (h3 : e.isAsk = true ↔ e.key ∉ es.map Ent.key) : Row (es ++ [e]) := fun i x hi => by
  rcases Nat.lt_trichotomy i es.length with hl | hl | hl
  · rw [List.getElem?_append_left hl] at hi
    rw [List.take_append_of_le_length (Nat.le_of_lt hl)]
    exact h i x hi
  · subst hl
    rw [List.getElem?_append_right (Nat.le_refl _), Nat.sub_self] at hi
    cases hi
    rw [List.take_append_of_le_length (Nat.le_refl _), List.take_of_length_le (Nat.le_refl _)]
    exact ⟨h1, h2, h3⟩
  · rw [List.getElem?_eq_none (by rw [List.length_append]; simp; omega)] at hi
    cases hi
theorem Row.ok {es : List Ent} (h : Row es) : ∀ e ∈ es, e.ok = true := fun e he => by
  obtain ⟨i, hi, e1⟩ := List.mem_iff_getElem.mp he
  exact (h i e (by rw [List.getElem?_eq_getElem hi, e1])).1
/-- the list of entries stands in the heap -/
def RowAt (K : PySem.W.Frag) (H : Hp) (l : Addr) (xs : List (Addr × Ent)) : Prop := SqL K H l (xs.map fun x => V.ref x.1) ∧ ∀ x ∈ xs, SqT K H x.1 x.2.vs
theorem RowAt.mono {K : PySem.W.Frag} {H H' : Hp} {l : Addr} {xs : List (Addr × Ent)} (h : RowAt K H l xs) (e : Ex H H') : RowAt K H' l xs := ⟨ex_sqL e h.1, fun x hx => ex_sqT e (h.2 x hx)⟩
/-- the entry that a line tells, if any -/
def entOf : List (List Nat) → Option Ent
  | [w, k, g, c, m] => if stxt w = "ask" then (match numOf 4 c, numOf 10 m with | some c, some m => some (.ask (stxt k) (stxt g) c m) | _, _ => none) else none
  | [w, k, m] => if stxt w = "release" then (match numOf 10 m with | some m => some (.rel (stxt k) m) | none => none) else none
  | _ => none
def readEnt (z : Str) : Option Ent := entOf ((Txt.split z " ").map tl)
theorem entOf_len {ps : List Str} {m : Nat} (hp : ∀ p ∈ ps, p.length ≤ m) {e : Ent} (h : entOf (ps.map tl) = some e) : ∀ s, V.str s ∈ e.vs → s.length ≤ m + 7 := by
  match ps, h with
  | [w, k, g, c, n], h =>
    have h1 := hp k (by simp)
    have h2 := hp g (by simp)
    simp only [List.map_cons, List.map_nil, entOf, stxt_tl] at h
    split at h
    · split at h
      · cases h
        intro s hs
        simp only [Ent.vs, List.mem_cons, List.not_mem_nil, or_false, V.str.injEq, reduceCtorEq, or_false] at hs
        rcases hs with rfl | rfl | rfl
        · have : ("ask" : Str).length = 3 := rfl
          omega
        · omega
        · omega
      · cases h
    · cases h
  | [w, k, n], h =>
    have h1 := hp k (by simp)
    simp only [List.map_cons, List.map_nil, entOf, stxt_tl] at h
    split at h
    · split at h
      · cases h
        intro s hs
        simp only [Ent.vs, List.mem_cons, List.not_mem_nil, or_false, V.str.injEq, reduceCtorEq, or_false] at hs
        rcases hs with rfl | rfl
        · have : ("release" : Str).length = 7 := rfl
          omega
        · omega
      · cases h
    · cases h
  | [], h => cases h
  | [_], h => cases h
  | [_, _], h => cases h
  | [_, _, _, _], h => cases h
  | _ :: _ :: _ :: _ :: _ :: _ :: _, h => cases h
theorem readEnt_len {z : Str} {e : Ent} (h : readEnt z = some e) : ∀ s, V.str s ∈ e.vs → s.length ≤ z.length + 7 := entOf_len (split_le z " ") h
theorem split_line {e : Ent} (h : e.ok = true) : Txt.split e.line " " = e.vs.map partS := by
  unfold Ent.line
  refine split_join (s := 32) (S := []) rfl (by decide +kernel) (by cases e <;> exact fun z => nomatch z) (fun p hp => ?_)
  obtain ⟨v, hv, rfl⟩ := List.mem_map.mp hp
  intro h32
  have := (Ent.ok_parts h v hv).plain 32 h32
  omega
theorem num_back {i : Int} {k : Nat} (h0 : 0 ≤ i) (hk : 0 < k) (h1 : i.toNat < 10 ^ k) : numOf k (tl (toString i : Str)) = some i := by
  rw [tl_num' h0, numOf_numL hk h1, Int.toNat_of_nonneg h0]
theorem read_back {e : Ent} (h : e.ok = true) : readEnt e.line = some e := by
  unfold readEnt
  rw [split_line h]
  cases e with
  | ask k g c m =>
    simp only [Ent.ok, Bool.and_eq_true, decide_eq_true_eq] at h
    obtain ⟨hk, hg, ⟨hc0, hc1⟩, hm0, hm1⟩ := h
    show entOf [tl "ask", tl k, tl g, tl (toString c : Str), tl (toString m : Str)] = _
    have e1 := num_back (i := c) (k := 4) (by omega) (by decide) (by omega)
    have e2 := num_back (i := m) (k := 10) (by omega) (by decide) (by omega)
    unfold entOf
    simp only [stxt_tl, if_pos rfl]
    rw [show ((4 : Nat) : Int) = 4 from rfl] at e1
    rw [show ((10 : Nat) : Int) = 10 from rfl] at e2
    rw [e1, e2]
    rfl
  | rel k m =>
    simp only [Ent.ok, Bool.and_eq_true, decide_eq_true_eq] at h
    obtain ⟨hk, hm0, hm1⟩ := h
    show entOf [tl "release", tl k, tl (toString m : Str)] = _
    have e2 := num_back (i := m) (k := 10) (by omega) (by decide) (by omega)
    unfold entOf
    simp only [stxt_tl, if_pos rfl]
    rw [show ((10 : Nat) : Int) = 10 from rfl] at e2
    rw [e2]
    rfl
theorem sum_le {b : Nat} : ∀ {ys : List Str}, (∀ y ∈ ys, y.length ≤ b) → (ys.map (·.length)).sum ≤ b * ys.length
  | [], _ => by simp
  | y :: r, h => by
    have h1 := sum_le (ys := r) fun z hz => h z (.tail _ hz)
    have h2 := h y (.head _)
    simp only [List.map_cons, List.sum_cons, List.length_cons, Nat.mul_add, Nat.mul_one]
    omega
theorem part_ok {v : V} (h : IsPart v) : PyData.strOk (partS v) = true := by
  have e : partS v = stxt (tl (partS v)) := (stxt_tl _).symm
  rw [e]
  exact strOk_of fun c hc => by have := h.plain c hc; omega
theorem dp_ent {K : PySem.W.Frag} {H : Hp} {p : Addr} {e : Ent} (h : SqT K H p e.vs) : Dp K H (.ref p) e.data := by
  cases e with
  | ask k g c m => exact .tup h (.cons (.str _) (.cons (.str _) (.cons (.str _) (.cons (.int _) (.cons (.int _) .nil)))))
  | rel k m => exact .tup h (.cons (.str _) (.cons (.str _) (.cons (.int _) .nil)))
/-! the drawn keys and groups -/
/-! ### steps of defs that raise -/
section
variable {K : PySem.W.Frag} {H : Hp} {Q : VK} {σ : L2.St} {D : Ends} {C C2 a dd : Addr} {f : Str} {W Wout : WX} {v : V} {fs : List (Str × V)} {cls c : Value} {d : Option Addr} {ts : Addr → Value → Option Addr → TS}
def rRaise (C : Addr) (f : Str) (W : WX) (σ : L2.St) : List V → Hp → Prop := fun vs H1 => ∃ v, vs = [v] ∧ ∀ d, H1 d = none → W (.ref C) (some d) σ (upd H1 d (.xd [(f, v)]))
theorem g_raise {ta : TA} (q : ta σ H (rRaise C f W σ)) : tRaise C f W ta D σ H := q
instance wk_g_raise {ta : TA} : Wk (tRaise C f W ta D σ H) (ta σ H (rRaise C f W σ)) := ⟨fun q_ => g_raise q_⟩
theorem g_raise1 (q : ∀ d, H d = none → W (.ref C) (some d) σ (upd H d (.xd [(f, v)]))) : rRaise C f W σ [v] H := ⟨v, rfl, q⟩
theorem g_callS {sp : Sp} {E : L2.St → XK} {t : TA} (q : t σ H fun vs H1 => sp vs H1 Q (E σ)) : tCallS sp E t σ H Q := q
instance wk_g_callS {sp : Sp} {E : L2.St → XK} {t : TA} : Wk (tCallS sp E t σ H Q) (t σ H fun vs H1 => sp vs H1 Q (E σ)) := ⟨fun q_ => g_callS q_⟩
def rXf (a : Addr) (cls : Value) (d : Option Addr) (C : Addr) (f : Str) : V → Hp → VK → Prop := fun x H1 Q => x = .ref a ∧ cls = .ref C ∧ ∃ (dd : Addr) (fs : List (Str × V)) (v : V), d = some dd ∧ H1 dd = some (.xd fs) ∧ fs.lookup f = some v ∧ Q v H1
theorem g_xf {te : TE} (q : te σ H fun x H1 => rXf a cls d C f x H1 Q) : tXf a cls d C f te σ H Q := q
instance wk_g_xf {te : TE} : Wk (tXf a cls d C f te σ H Q) (te σ H fun x H1 => rXf a cls d C f x H1 Q) := ⟨fun q_ => g_xf q_⟩
theorem g_xf1 (hd : H dd = some (.xd fs)) (hl : fs.lookup f = some v) (q : Q v H) : rXf a (.ref C) (some dd) C f (.ref a) H Q := ⟨rfl, rfl, dd, fs, v, rfl, hd, hl, q⟩
theorem g_isED {b : Bool} (hk : PySem.W.kitOne K (.ref C) (.ref C2) = some b) (hd : H dd = some (.xd fs)) (q : Q (.bl b) H) : rIsED K C a (.ref C) (some dd) [.ref a, .ref C2] H Q :=
  ⟨.ref C2, .ref C2, b, dd, fs, rfl, rfl, (fun u r => r), hk, rfl, hd, q⟩
end
section
variable {H : Hp} {Q : VK} {σ : L2.St}
theorem g_repl1 {to : TE} {y z : Str} (q : to σ H fun v H1 => rRepl1 y z v H1 Q) : tRepl1 to y z σ H Q := q
instance wk_g_repl1 {to : TE} {y z : Str} : Wk (tRepl1 to y z σ H Q) (to σ H fun v H1 => rRepl1 y z v H1 Q) := ⟨fun q_ => g_repl1 q_⟩
theorem g_repl1S {x : Str} {a b : List Nat} (ha : 32 ∉ a) (hx : tl x = a ++ 32 :: b) (hl : x.length ≤ 100000) (q : Q (.str (stxt (a ++ 32 :: 32 :: b))) H) : rRepl1 " " "  " (.str x) H Q := by
  have hs := splitMax_cutN x (k := 1) (by decide)
  have hc : cutN (1 : Int).toNat (tl x) = [a, b] := by
    show cutN 1 (tl x) = _
    rw [hx]
    unfold cutN
    rw [brk_app b ha]
    simp [cutN]
  rw [hc] at hs
  have hlim : limitOf x 1 = 1 := rfl
  unfold Txt.splitMax at hs
  rw [hlim] at hs
  have h1 : (decide (x.length < (" " : Str).length) || decide (Builtin.Str.strKind x < Builtin.Str.strKind " ")) = false := by
    cases h : (decide (x.length < (" " : Str).length) || decide (Builtin.Str.strKind x < Builtin.Str.strKind " ")) with
    | false => rfl
    | true =>
      rw [h, if_pos rfl] at hs
      simp at hs
  rw [h1, if_neg Bool.false_ne_true] at hs
  have h2 : (Builtin.Str.occurrences x " " 0 x.length 1).isEmpty = false := by
    cases h : (Builtin.Str.occurrences x " " 0 x.length 1).isEmpty with
    | false => rfl
    | true =>
      rw [h, if_pos rfl] at hs
      simp at hs
  rw [h2, if_neg Bool.false_ne_true] at hs
  have h3 : Builtin.Str.partsBetween x (Builtin.Str.occurrences x " " 0 x.length 1) (" " : Str).length = [stxt a, stxt b] := map_tl_inj (by rw [hs]; rfl)
  have h4 : Builtin.Str.glued "  " [stxt a, stxt b] = stxt (a ++ 32 :: 32 :: b) := by
    rw [StrLaws.glued_eq_join]
    refine ext_tl ?_
    rw [tl_join, tl_stxt]
    show joinL [32, 32] [a, b] = _
    simp [joinL]
  refine ⟨x, rfl, hl, by decide +kernel, by decide +kernel, by decide +kernel, (fun e => by rw [e] at h2; cases h2), ?_, ?_⟩
  · rw [h3, h4, len_stxt]
    have e1 := len_tl x
    rw [hx] at e1
    simp only [List.length_append, List.length_cons] at e1 ⊢
    exact fits_of (by omega)
  · rw [h3, h4]; exact q
end
/-! ### spoilt lines of entries -/
theorem joinL_snoc (S q : List Nat) : ∀ (ps : List (List Nat)), ps ≠ [] → joinL S (ps ++ [q]) = joinL S ps ++ S ++ q
  | [], h => absurd rfl h
  | [p], _ => by simp [joinL]
  | p :: a :: r, _ => by
    have ih := joinL_snoc S q (a :: r) (by simp)
    rw [List.cons_append] at ih
    rw [List.cons_append, List.cons_append, joinL_cons, joinL_cons, ih]
    simp only [List.append_assoc]
def Ent.word : Ent → Str
  | .ask _ _ _ _ => "ask"
  | .rel _ _ => "release"
theorem join_len {y : Str} {b : Nat} : ∀ {ps : List Str}, (∀ p ∈ ps, p.length ≤ b) → (Txt.join y ps).length ≤ (b + y.length) * ps.length := by
  intro ps h
  rw [len_tl, join_eq, tl_join]
  have key : ∀ ps : List Str, (∀ p ∈ ps, p.length ≤ b) → (joinL (tl y) (ps.map tl)).length ≤ (b + y.length) * ps.length := by
    intro ps
    induction ps with
    | nil => intro _; simp [joinL]
    | cons p r ih =>
      intro h
      have h1 := h p (.head _)
      rw [len_tl] at h1
      have h2 := ih fun x hx => h x (.tail _ hx)
      have h3 := len_tl y
      cases r with
      | nil => simp only [List.map_cons, List.map_nil, joinL, List.length_cons, List.length_nil, Nat.zero_add, Nat.mul_one]; omega
      | cons a r =>
        simp only [List.map_cons] at h2 ⊢
        rw [joinL_cons, List.length_append, List.length_append]
        simp only [List.length_cons, Nat.mul_add, Nat.mul_one] at h2 ⊢
        omega
  exact key ps h
/-! ### rows and texts of the law -/
theorem Row.cons {e0 : Ent} {es : List Ent} (h : Row es) (h0 : e0.ok = true) (ha : e0.isAsk = true) (hm : e0.mom = 0) (hk : e0.key ∉ es.map Ent.key) : Row (e0 :: es) := fun i e hi => by
  cases i with
  | zero =>
    cases hi
    exact ⟨h0, by rw [hm]; exact Int.le_refl _, fun _ => by simp, fun _ => ha⟩
  | succ i =>
    rw [List.getElem?_cons_succ] at hi
    obtain ⟨a, b, c⟩ := h i e hi
    have hke : e.key ≠ e0.key := fun z => hk (z ▸ List.mem_map_of_mem (List.mem_of_getElem? hi))
    refine ⟨a, ?_, ?_⟩
    · rw [List.take_succ_cons]
      cases hl : es.take i with
      | nil =>
        have e1 : lastM [e0] = e0.mom := rfl
        rw [e1, hm]
        rw [hl] at b
        exact b
      | cons x r =>
        have e1 : lastM (e0 :: x :: r) = lastM (x :: r) := by unfold lastM; rw [List.getLast?_cons_cons]
        rw [e1, ← hl]
        exact b
    · rw [List.take_succ_cons, List.map_cons, List.mem_cons, not_or, c]
      exact ⟨fun z => ⟨hke, z⟩, fun z => z.2⟩
/-! ### entries of any parts -/
def RowV (K : PySem.W.Frag) (H : Hp) (l : Addr) (xs : List (Addr × List V)) : Prop := SqL K H l (xs.map fun x => V.ref x.1) ∧ ∀ x ∈ xs, SqT K H x.1 x.2
theorem RowV.mono {K : PySem.W.Frag} {H H' : Hp} {l : Addr} {xs : List (Addr × List V)} (h : RowV K H l xs) (e : Ex H H') : RowV K H' l xs := ⟨ex_sqL e h.1, fun x hx => ex_sqT e (h.2 x hx)⟩
/-! ### several except clauses, some of them with a name -/
/-! ### views: steps and plain law -/
section
variable {X : Cx} {K : PySem.W.Frag}
def rTupOf (K : PySem.W.Frag) : List V → Hp → VK → Prop := fun xs H Q => ∃ p ys, xs = [V.ref p] ∧ ((SqL K H p ys ∧ ∀ l, H l = none → Q (.ref l) (upd H l (.tup ys))) ∨ (SqT K H p ys ∧ Q (.ref p) H))
theorem call_tupK (h : X.K = K) : CallR X (.type "tuple") (rTupOf K) := by subst h; exact call_tuple_of
variable {H : Hp} {Q : VK} {p : Addr} {z : Str} {zs : List Str}
theorem g_tupL {ys : List V} (h : SqL K H p ys) (q : ∀ l, H l = none → Q (.ref l) (upd H l (.tup ys))) : rTupOf K [.ref p] H Q := ⟨p, ys, rfl, .inl ⟨h, q⟩⟩
theorem flat_strs : (zs.map V.str).all flatV = true := by
  rw [List.all_eq_true]
  intro x hx
  obtain ⟨y, _, rfl⟩ := List.mem_map.mp hx
  rfl
theorem inV_strs : inV (.str z) (zs.map V.str) = decide (z ∈ zs) := by
  unfold inV
  rw [Bool.eq_iff_iff, List.any_eq_true, decide_eq_true_eq]
  constructor
  · rintro ⟨x, hx, he⟩
    obtain ⟨y, hy, rfl⟩ := List.mem_map.mp hx
    have e : y = z := eq_of_beq he
    rw [← e]; exact hy
  · intro h
    exact ⟨.str z, List.mem_map_of_mem h, beq_self_eq_true z⟩
theorem g_inL (h : SqL K H p (zs.map V.str)) (q : Q (.bl (decide (z ∈ zs))) H) : rIn K false (.str z) (.ref p) H Q := ⟨p, _, rfl, .inl h, rfl, flat_strs, by rw [inV_strs]; exact q⟩
theorem g_ninL (h : SqL K H p (zs.map V.str)) (q : Q (.bl (!decide (z ∈ zs))) H) : rIn K true (.str z) (.ref p) H Q := ⟨p, _, rfl, .inl h, rfl, flat_strs, by rw [inV_strs]; exact q⟩
theorem g_inT (h : SqT K H p (zs.map V.str)) (q : Q (.bl (decide (z ∈ zs))) H) : rIn K false (.str z) (.ref p) H Q := ⟨p, _, rfl, .inr h, rfl, flat_strs, by rw [inV_strs]; exact q⟩
theorem g_ninT (h : SqT K H p (zs.map V.str)) (q : Q (.bl (!decide (z ∈ zs))) H) : rIn K true (.str z) (.ref p) H Q := ⟨p, _, rfl, .inr h, rfl, flat_strs, by rw [inV_strs]; exact q⟩
end
def ViewAt (K : PySem.W.Frag) (H : Hp) (p : Addr) (n : Int) (zs : List Str) : Prop := ∃ q, SqT K H p [.int n, .ref q] ∧ SqT K H q (zs.map V.str)
theorem ViewAt.mono {K : PySem.W.Frag} {H H' : Hp} {p : Addr} {n : Int} {zs : List Str} (h : ViewAt K H p n zs) (e : Ex H H') : ViewAt K H' p n zs := by
  obtain ⟨q, h1, h2⟩ := h
  exact ⟨q, ex_sqT e h1, ex_sqT e h2⟩
/-! ### tuples that are known to have no dict: their methods -/
def Dn (H : Hp) (p : Addr) : Prop := ∃ o u, H p = some (.frz o u) ∧ o.cls = .type "tuple" ∧ o.dict = none
theorem ex_dn {H H' : Hp} {p : Addr} (e : Ex H H') (h : Dn H p) : Dn H' p := by
  obtain ⟨o, u, h1, h2⟩ := h
  exact ⟨o, u, e p _ h1, h2⟩
section
variable {X : Cx} {K : PySem.W.Frag}
def tBMT (r : V → List V → Hp → VK → Prop) (to : TE) (t : TA) : TE := fun σ H Q => to σ H fun x H1 => (∃ p, x = .ref p ∧ Dn H1 p) ∧ t σ H1 fun xs H2 => r x xs H2 Q
variable {H : Hp} {Q : VK} {p r : Addr} {zs : List Str} {ys : List V} {y : V}
theorem g_bmT {σ : L2.St} {to : TE} {t : TA} {rm : V → List V → Hp → VK → Prop} (q : to σ H fun x H1 => (∃ p, x = .ref p ∧ Dn H1 p) ∧ t σ H1 fun xs H2 => rm x xs H2 Q) : tBMT rm to t σ H Q := q
instance wk_g_bmT {σ : L2.St} {to : TE} {t : TA} {rm : V → List V → Hp → VK → Prop} : Wk (tBMT rm to t σ H Q) (to σ H fun x H1 => (∃ p, x = .ref p ∧ Dn H1 p) ∧ t σ H1 fun xs H2 => rm x xs H2 Q) := ⟨fun q_ => g_bmT q_⟩
end
def ViewF (K : PySem.W.Frag) (H : Hp) (p : Addr) (n : Int) (zs : List Str) : Prop := ∃ q, SqT K H p [.int n, .ref q] ∧ SqT K H q (zs.map V.str) ∧ Dn H q
theorem ViewF.mono {K : PySem.W.Frag} {H H' : Hp} {p : Addr} {n : Int} {zs : List Str} (h : ViewF K H p n zs) (e : Ex H H') : ViewF K H' p n zs := by
  obtain ⟨q, h1, h2, h3⟩ := h
  exact ⟨q, ex_sqT e h1, ex_sqT e h2, ex_dn e h3⟩
/-! names made of a base -/
def lt36 (m : Int) : Nat := (tl "abcdefghijklmnopqrstuvwxyz0123456789").getD (m % 36).toNat 0
theorem lt36_in (m : Int) : inLet (lt36 m) = true := by
  have h0 := Int.emod_nonneg m (show (36 : Int) ≠ 0 by decide)
  have h1 := Int.emod_lt_of_pos m (show (0 : Int) < 36 by decide)
  have key : ∀ i < 36, inLet ((tl "abcdefghijklmnopqrstuvwxyz0123456789").getD i 0) = true := by decide +kernel
  exact key _ (by omega)
theorem lt36_inj {a b : Int} (h : lt36 a = lt36 b) : a % 36 = b % 36 := by
  have h0 := Int.emod_nonneg a (show (36 : Int) ≠ 0 by decide)
  have h1 := Int.emod_lt_of_pos a (show (0 : Int) < 36 by decide)
  have h2 := Int.emod_nonneg b (show (36 : Int) ≠ 0 by decide)
  have h3 := Int.emod_lt_of_pos b (show (0 : Int) < 36 by decide)
  have key : ∀ i < 36, ∀ j < 36, (tl "abcdefghijklmnopqrstuvwxyz0123456789").getD i 0 = (tl "abcdefghijklmnopqrstuvwxyz0123456789").getD j 0 → i = j := by decide +kernel
  have := key _ (by omega) _ (by omega) h
  omega
theorem g_ix36 {H : Hp} {Q : VK} {m : Int} (q : Q (.str ⟨#[lt36 m]⟩) H) : rIxS (.str "abcdefghijklmnopqrstuvwxyz0123456789") (.int (m % 36)) H Q := by
  have h0 := Int.emod_nonneg m (show (36 : Int) ≠ 0 by decide)
  have h1 := Int.emod_lt_of_pos m (show (0 : Int) < 36 by decide)
  exact g_ixS (fits_of (by decide)) (at_codes h0 (by show m % 36 < ((36 : Nat) : Int); exact h1)) q
theorem name_len {z : Str} (h : isName z = true) : z.length ≤ 12 := by
  unfold isName at h
  rw [Bool.and_eq_true, Bool.and_eq_true] at h
  have := of_decide_eq_true h.1.2
  omega
structure Houses (zs : List Str) : Prop where
  nd : zs.Nodup
  nm : ∀ z ∈ zs, isName z = true
  lo : 1 ≤ zs.length
  hi : zs.length ≤ 8
theorem Houses.len {zs : List Str} (h : Houses zs) : ∀ z ∈ zs, z.length ≤ 100 := fun z hz => Nat.le_trans (name_len (h.nm z hz)) (by decide)
/-! ### objects with fields: steps -/
section
variable {K : PySem.W.Frag} {H : Hp} {Q : VK} {σ : L2.St} {te ta tv : TE} {t : TA} {f m : Str} {C p dx : Addr} {fs : List (Str × V)} {v : V} {D : Ends} {sp : Sp} {dvs : List V} {E : XK}
def rFld (K : PySem.W.Frag) (f : Str) (Q : VK) : V → Hp → Prop := fun x H1 => ∃ a C dx fs v, x = .ref a ∧ H1 a = some (.ins C dx fs) ∧ Cls K C ∧ NoAttr K C f ∧ fs.lookup f = some v ∧ Q v H1
theorem g_fld (q : te σ H fun x H1 => rFld K f Q x H1) : tFld K te f σ H Q := q
instance wk_g_fld : Wk (tFld K te f σ H Q) (te σ H fun x H1 => rFld K f Q x H1) := ⟨fun q_ => g_fld q_⟩
def rStF (K : PySem.W.Frag) (f : Str) (y : V) (D : Ends) (σ : L2.St) : V → Hp → Prop := fun x H2 => ∃ a C dx fs, x = .ref a ∧ H2 a = some (.ins C dx fs) ∧ Cls K C ∧ NoAttr K C f ∧ fs.length < 1000 ∧ D.nx σ (upd H2 a (.ins C dx (putF f y fs)))
theorem g_stF (q : tv σ H fun y H1 => ta σ H1 fun x H2 => rStF K f y D σ x H2) : sFld K ta tv f D σ H := q
instance wk_g_stF : Wk (sFld K ta tv f D σ H) (tv σ H fun y H1 => ta σ H1 fun x H2 => rStF K f y D σ x H2) := ⟨fun q_ => g_stF q_⟩
def rMeth (C : Addr) (m : Str) (sp : Sp) (dvs : List V) (E : XK) (t : TA) (σ : L2.St) (Q : VK) : V → Hp → Prop := fun x H1 => ∃ a dx fs, x = .ref a ∧ H1 a = some (.ins C dx fs) ∧ fs.lookup m = none ∧ t σ H1 fun vs H2 => sp (x :: (vs ++ dvs)) H2 Q E
theorem g_meth (q : ta σ H fun x H1 => rMeth C m sp dvs E t σ Q x H1) : tMeth C m sp dvs E ta t σ H Q := q
instance wk_g_meth : Wk (tMeth C m sp dvs E ta t σ H Q) (ta σ H fun x H1 => rMeth C m sp dvs E t σ Q x H1) := ⟨fun q_ => g_meth q_⟩
theorem g_make (q : t σ H fun vs H1 => ∀ x dx, H1 x = none → H1 dx = none → dx ≠ x → sp (.ref x :: (vs ++ dvs)) (upd (upd H1 dx (.own x)) x (.ins C dx [])) (fun v H2 => v = .non ∧ Q (.ref x) H2) E) : tMake C sp dvs E t σ H Q := q
instance wk_g_make : Wk (tMake C sp dvs E t σ H Q) (t σ H fun vs H1 => ∀ x dx, H1 x = none → H1 dx = none → dx ≠ x → sp (.ref x :: (vs ++ dvs)) (upd (upd H1 dx (.own x)) x (.ins C dx [])) (fun v H2 => v = .non ∧ Q (.ref x) H2) E) := ⟨fun q_ => g_make q_⟩
/-- what stands, but the object at m -/
def ExP (m : Addr) (H H' : Hp) : Prop := ∀ b o, b ≠ m → H b = some o → H' b = some o
theorem ExP.of {m : Addr} {H H' : Hp} (e : Ex H H') : ExP m H H' := fun b o _ h => e b o h
theorem ExP.trans {m : Addr} {H H' H2 : Hp} (e : ExP m H H') (e2 : ExP m H' H2) : ExP m H H2 := fun b o hb h => e2 b o hb (e b o hb h)
theorem ExP.upd {m : Addr} {H H' : Hp} {o : HO} (e : ExP m H H') : ExP m H (L2.upd H' m o) := fun b o hb h => by rw [upd_ne hb]; exact e b o hb h
theorem g_rev (q : te σ H fun x H1 => ∃ a xs, x = .ref a ∧ SqL K H1 a xs ∧ ∀ p, H1 p = none → Q (.ref p) (upd H1 p (.lst xs.reverse))) : tRevL K te σ H Q := q
instance wk_g_rev : Wk (tRevL K te σ H Q) (te σ H fun x H1 => ∃ a xs, x = .ref a ∧ SqL K H1 a xs ∧ ∀ p, H1 p = none → Q (.ref p) (upd H1 p (.lst xs.reverse))) := ⟨fun q_ => g_rev q_⟩
end
/-! ### the gap: limits and meters -/
def LimG (K : PySem.W.Frag) (H : Hp) (p : Addr) (gs : List Str) (t : Int) : Prop := ∃ g n, SqT K H p [.str "gap1", .str "gap", .ref g, .ref n] ∧ SqT K H g (gs.map V.str) ∧ SqT K H n [.int t]
theorem LimG.mono {K : PySem.W.Frag} {H H' : Hp} {p : Addr} {gs : List Str} {t : Int} (h : LimG K H p gs t) (e : Ex H H') : LimG K H' p gs t := by
  obtain ⟨g, n, h1, h2, h3⟩ := h
  exact ⟨g, n, ex_sqT e h1, ex_sqT e h2, ex_sqT e h3⟩
def oN : Option Int → V
  | some i => .int i
  | none => .non
def flG (lim : Addr) (t : Int) (last : Option Int) : List (Str × V) := [("limit", .ref lim), ("_ticks", .int t), ("_last", oN last)]
section
variable {K : PySem.W.Frag} {H : Hp} {σ : L2.St} {T : Addr} {x y z u : V} {i j k l : Nat} {Qs : L2.St → Hp → Prop}
theorem g_gtup3 (h : SqT K H T [x, y, z]) (q : Qs (((σ.set i (some x)).set j (some y)).set k (some z)) H) : gTup K 3 (gCons (gName i) (gCons (gName j) (gCons (gName k) gNil))) (.ref T) σ H Qs :=
  ⟨T, [x, y, z], rfl, h, rfl, x, [y, z], rfl, y, [z], rfl, z, [], rfl, rfl, q⟩
end
abbrev R4 : Type := Int × Str × Int × Str
def R4.vs (r : R4) : List V := [.int r.1, .str r.2.1, .int r.2.2.1, .str r.2.2.2]
def RowsG (K : PySem.W.Frag) (H : Hp) (xs : List (Addr × R4)) : Prop := ∀ x ∈ xs, SqT K H x.1 x.2.vs
theorem RowsG.mono {K : PySem.W.Frag} {H H' : Hp} {xs : List (Addr × R4)} (h : RowsG K H xs) (e : Ex H H') : RowsG K H' xs := fun x hx => ex_sqT e (h x hx)
structure WSt (K : PySem.W.Frag) (C m dx p l : Addr) (ns : List Int) (gs : List Str) (t : Int) (pl pg : Addr) (last : Option Int) (xs : List (Addr × R4)) (H : Hp) : Prop where
  hm : H m = some (.ins C dx (flG p t last))
  hL : LimG K H p gs t
  hS : SqL K H l (ns.map V.int)
  hA : H pl = some (.lst (xs.map fun x => V.ref x.1))
  hG : H pg = some (.lst [])
  hR : RowsG K H xs
section
variable {K : PySem.W.Frag} {C m dx p l : Addr} {ns : List Int} {gs : List Str} {t : Int} {pl pg : Addr} {last last2 : Option Int} {xs : List (Addr × R4)} {H H' : Hp}
theorem WSt.mono (w : WSt K C m dx p l ns gs t pl pg last xs H) (e : Ex H H') : WSt K C m dx p l ns gs t pl pg last xs H' :=
  ⟨ex_at e w.hm, w.hL.mono e, ex_sqL e w.hS, ex_at e w.hA, ex_at e w.hG, w.hR.mono e⟩
theorem sqT_lst {q : Addr} {o : HO} {vs ys : List V} (hA : H pl = some (.lst ys)) (h : SqT K H q vs) : SqT K (upd H pl o) q vs := sqT_upd hA h
theorem ExP.mut {q : Addr} {o : HO} (e : ExP m H H') (h : H q = none) : ExP m H (L2.upd H' q o) := fun b u hb hu => by
  rw [upd_ne (fun z => by rw [z, h] at hu; cases hu)]
  exact e b u hb hu
end
section
variable {X : Cx} {K : PySem.W.Frag}
def rFldA (K : PySem.W.Frag) (f : Str) (v : V) (σ : L2.St) (Q : L2.St → Hp → Prop) : V → Hp → Prop := fun x H1 => ∃ a C dx fs, x = .ref a ∧ H1 a = some (.ins C dx fs) ∧ Cls K C ∧ NoAttr K C f ∧ fs.length < 1000 ∧ Q σ (upd H1 a (.ins C dx (putF f v fs)))
def gFldA (K : PySem.W.Frag) (to : TE) (f : Str) : TG := fun v σ H Q => to σ H fun x H1 => ∃ a C dx fs, x = .ref a ∧ H1 a = some (.ins C dx fs) ∧ Cls K C ∧ NoAttr K C f ∧ fs.length < 1000 ∧ Q σ (upd H1 a (.ins C dx (putF f v fs)))
theorem g_fldA {to : TE} {f : Str} {v : V} {σ : L2.St} {H : Hp} {Q : L2.St → Hp → Prop} (q : to σ H fun x H1 => rFldA K f v σ Q x H1) : gFldA K to f v σ H Q := q
instance wk_g_fldA {to : TE} {f : Str} {v : V} {σ : L2.St} {H : Hp} {Q : L2.St → Hp → Prop} : Wk (gFldA K to f v σ H Q) (to σ H fun x H1 => rFldA K f v σ Q x H1) := ⟨fun q_ => g_fldA q_⟩
end
/-! ### limits of two numbers (window, span, bucket) and their meters -/
def LimF (K : PySem.W.Frag) (H : Hp) (p : Addr) (w : Str) (gs : List Str) (s t : Int) : Prop := ∃ g n, SqT K H p [.str "flow1", .str w, .ref g, .ref n] ∧ SqT K H g (gs.map V.str) ∧ SqT K H n [.int s, .int t]
section
variable {K : PySem.W.Frag} {H H' : Hp} {p : Addr} {wd : Str} {gs : List Str} {s t : Int} {m C dx : Addr} {fs fs2 : List (Str × V)}
theorem LimF.mono (h : LimF K H p wd gs s t) (e : Ex H H') : LimF K H' p wd gs s t := by
  obtain ⟨g, n, h1, h2, h3⟩ := h
  exact ⟨g, n, ex_sqT e h1, ex_sqT e h2, ex_sqT e h3⟩
structure WStF (K : PySem.W.Frag) (C m dx p l : Addr) (fs : List (Str × V)) (wd : Str) (ns : List Int) (gs : List Str) (s t : Int) (pl pg : Addr) (xs : List (Addr × R4)) (H : Hp) : Prop where
  hm : H m = some (.ins C dx fs)
  hL : LimF K H p wd gs s t
  hS : SqL K H l (ns.map V.int)
  hA : H pl = some (.lst (xs.map fun x => V.ref x.1))
  hG : H pg = some (.lst [])
  hR : RowsG K H xs
variable {l pl pg : Addr} {ns : List Int} {xs : List (Addr × R4)}
theorem WStF.mono (w : WStF K C m dx p l fs wd ns gs s t pl pg xs H) (e : Ex H H') : WStF K C m dx p l fs wd ns gs s t pl pg xs H' :=
  ⟨ex_at e w.hm, w.hL.mono e, ex_sqL e w.hS, ex_at e w.hA, ex_at e w.hG, w.hR.mono e⟩
end
/-- moment and cost of a row -/
abbrev MC : Type := Int × Int
/-! spans -/
def atS (t k : Int) (rs : List MC) : Int := ((rs.filter fun r => decide (r.1 / t = k)).map (·.2)).sum
theorem atS_snoc (t k : Int) (rs : List MC) (m c : Int) : atS t k (rs ++ [(m, c)]) = atS t k rs + if m / t = k then c else 0 := by
  unfold atS
  rw [List.filter_append, List.map_append, List.sum_append]
  by_cases h : m / t = k
  · rw [List.filter_cons_of_pos (by rw [decide_eq_true h]), if_pos h]
    simp
  · rw [List.filter_cons_of_neg (by rw [decide_eq_false h]; decide), if_neg h]
    simp
theorem atS_new {t k : Int} {rs : List MC} (h : ∀ r ∈ rs, r.1 / t < k) : atS t k rs = 0 := by
  unfold atS
  have e : (rs.filter fun r => decide (r.1 / t = k)) = [] := by
    rw [List.filter_eq_nil_iff]
    intro r hr
    have := h r hr
    rw [decide_eq_true_eq]
    omega
  rw [e]
  rfl
/-- what the meter keeps -/
structure KeepS (t mo sp us : Int) (rs : List MC) : Prop where
  us : us = atS t sp rs
  all : ∀ r ∈ rs, r.1 / t ≤ sp
  le : sp ≤ mo / t
def usedS (t sp us m : Int) : Int := if m / t = sp then us else 0
theorem KeepS.used {t mo sp us m : Int} {rs : List MC} (k : KeepS t mo sp us rs) (ht : 1 ≤ t) (h : mo ≤ m) : usedS t sp us m = atS t (m / t) rs := by
  have h1 : mo / t ≤ m / t := Int.ediv_le_ediv (by omega) h
  have h2 := k.le
  unfold usedS
  by_cases e : m / t = sp
  · rw [if_pos e, e]; exact k.us
  · rw [if_neg e, atS_new]
    intro r hr
    have := k.all r hr
    omega
theorem KeepS.snoc {t mo m c sp us : Int} {rs : List MC} (k : KeepS t mo sp us rs) (ht : 1 ≤ t) (h : mo ≤ m) : KeepS t m (m / t) (usedS t sp us m + c) (rs ++ [(m, c)]) := by
  have h1 : mo / t ≤ m / t := Int.ediv_le_ediv (by omega) h
  have h2 := k.le
  refine ⟨by rw [k.used ht h, atS_snoc, if_pos rfl], fun r hr => ?_, Int.le_refl _⟩
  rcases List.mem_append.mp hr with hr | hr
  · have := k.all r hr; omega
  · rw [List.mem_singleton] at hr
    rw [hr]
    exact Int.le_refl _
/-! the meter's fields -/
/-! ### windows: plain law -/
/-- what still counts at m -/
def sinceW (t m : Int) (rs : List MC) : Int := ((rs.filter fun r => decide (r.1 > m - t)).map (·.2)).sum
theorem sinceW_snoc (t a : Int) (rs : List MC) (m c : Int) : sinceW t a (rs ++ [(m, c)]) = sinceW t a rs + if m > a - t then c else 0 := by
  unfold sinceW
  rw [List.filter_append, List.map_append, List.sum_append]
  by_cases h : m > a - t
  · rw [List.filter_cons_of_pos (by rw [decide_eq_true h]), if_pos h]
    simp
  · rw [List.filter_cons_of_neg (by rw [decide_eq_false h]; decide), if_neg h]
    simp
def live (t m : Int) (ps : List MC) : List MC := ps.filter fun r => decide (r.1 > m - t)
theorem live_since {t m m2 : Int} (h : m ≤ m2) (ps : List MC) : sinceW t m2 (live t m ps) = sinceW t m2 ps := by
  unfold sinceW live
  rw [List.filter_filter]
  congr 2
  apply List.filter_congr
  intro r _
  rw [Bool.eq_iff_iff, Bool.and_eq_true, decide_eq_true_eq, decide_eq_true_eq]
  omega
/-- what the meter keeps behind let -/
def letW (t m c : Int) (ps : List MC) : List MC := match (live t m ps).getLast? with
  | some r => if r.1 = m then (live t m ps).dropLast ++ [(m, c + r.2)] else live t m ps ++ [(m, c)]
  | none => live t m ps ++ [(m, c)]
structure KeepW (t mo : Int) (ps rs : List MC) : Prop where
  eq : ∀ m, mo ≤ m → sinceW t m ps = sinceW t m rs
  le : ∀ r ∈ ps, r.1 ≤ mo
  lers : ∀ r ∈ rs, r.1 ≤ mo
  inc : ps.Pairwise fun a b => a.1 < b.1
  sub : ∀ r ∈ ps, ∃ q ∈ rs, q.1 = r.1
theorem letW_since {t m c : Int} (m2 : Int) (ps : List MC) : sinceW t m2 (letW t m c ps) = sinceW t m2 (live t m ps) + if m > m2 - t then c else 0 := by
  unfold letW
  cases hl : (live t m ps).getLast? with
  | none => exact sinceW_snoc t m2 _ m c
  | some r =>
    show sinceW t m2 (if r.1 = m then (live t m ps).dropLast ++ [(m, c + r.2)] else live t m ps ++ [(m, c)]) = _
    by_cases e : r.1 = m
    · rw [if_pos e]
      have hne : live t m ps ≠ [] := fun h => by rw [h] at hl; cases hl
      have hr : (live t m ps).getLast hne = r := by
        rw [List.getLast?_eq_some_getLast hne] at hl
        exact Option.some.inj hl
      have hd : live t m ps = (live t m ps).dropLast ++ [r] := by
        rw [← hr]; exact (List.dropLast_concat_getLast hne).symm
      generalize (live t m ps).dropLast = ini at hd ⊢
      rw [hd, show ([r] : List MC) = [(r.1, r.2)] from rfl, sinceW_snoc, sinceW_snoc, e]
      split <;> omega
    · rw [if_neg e]
      exact sinceW_snoc t m2 _ m c
theorem letW_mem {t m c : Int} {ps : List MC} {r : MC} (h : r ∈ letW t m c ps) : r.1 = m ∨ r ∈ ps := by
  have key : ∀ x ∈ live t m ps, x ∈ ps := fun x hx => (List.mem_filter.mp hx).1
  unfold letW at h
  split at h
  · split at h
    · rcases List.mem_append.mp h with h | h
      · exact .inr (key r (List.dropLast_subset _ h))
      · rw [List.mem_singleton] at h; rw [h]; exact .inl rfl
    · rcases List.mem_append.mp h with h | h
      · exact .inr (key r h)
      · rw [List.mem_singleton] at h; rw [h]; exact .inl rfl
  · rcases List.mem_append.mp h with h | h
    · exact .inr (key r h)
    · rw [List.mem_singleton] at h; rw [h]; exact .inl rfl
theorem live_inc {t m : Int} {ps : List MC} (h : ps.Pairwise fun a b => a.1 < b.1) : (live t m ps).Pairwise fun a b => a.1 < b.1 := h.sublist List.filter_sublist
theorem inc_snoc {l : List MC} {x : MC} (h : l.Pairwise fun a b => a.1 < b.1) (hx : ∀ r ∈ l, r.1 < x.1) : (l ++ [x]).Pairwise fun a b => a.1 < b.1 := by
  rw [List.pairwise_append]
  refine ⟨h, List.pairwise_singleton _ _, fun a ha b hb => ?_⟩
  rw [List.mem_singleton] at hb
  rw [hb]
  exact hx a ha
theorem letW_inc {t m c : Int} {ps : List MC} (h : ps.Pairwise fun a b => a.1 < b.1) (hm : ∀ r ∈ ps, r.1 ≤ m) : (letW t m c ps).Pairwise fun a b => a.1 < b.1 := by
  have hi := live_inc (t := t) (m := m) h
  have hl : ∀ r ∈ live t m ps, r.1 ≤ m := fun r hr => hm r (List.mem_filter.mp hr).1
  unfold letW
  generalize live t m ps = l at hi hl
  cases hg : l.getLast? with
  | none =>
    have : l = [] := List.getLast?_eq_none_iff.mp hg
    rw [this]
    exact List.pairwise_singleton _ _
  | some r =>
    have hne : l ≠ [] := fun h => by rw [h] at hg; cases hg
    have hr : l.getLast hne = r := by
      rw [List.getLast?_eq_some_getLast hne] at hg
      exact Option.some.inj hg
    have hd : l = l.dropLast ++ [r] := by rw [← hr]; exact (List.dropLast_concat_getLast hne).symm
    generalize l.dropLast = ini at hd
    rw [hd] at hi hl
    rw [List.pairwise_append] at hi
    show List.Pairwise _ (if r.1 = m then ini ++ [(m, c + r.2)] else l ++ [(m, c)])
    by_cases e : r.1 = m
    · rw [if_pos e]
      refine inc_snoc hi.1 fun a ha => ?_
      have := hi.2.2 a ha r (.head _)
      show a.1 < m
      omega
    · rw [if_neg e, hd]
      have hrl := hl r (List.mem_append_right _ (.head _))
      refine inc_snoc (List.pairwise_append.mpr hi) fun a ha => ?_
      show a.1 < m
      rcases List.mem_append.mp ha with ha | ha
      · have := hi.2.2 a ha r (.head _); omega
      · rw [List.mem_singleton] at ha; rw [ha]; omega
theorem KeepW.snoc {t mo m c : Int} {ps rs : List MC} (k : KeepW t mo ps rs) (h : mo ≤ m) : KeepW t m (letW t m c ps) (rs ++ [(m, c)]) := by
  refine ⟨fun x hx => ?_, fun r hr => ?_, fun r hr => ?_, letW_inc k.inc fun r hr => Int.le_trans (k.le r hr) h, fun r hr => ?_⟩
  · rw [letW_since, live_since hx, sinceW_snoc, k.eq x (by omega)]
  · rcases letW_mem hr with e | hr
    · omega
    · exact Int.le_trans (k.le r hr) h
  · rcases List.mem_append.mp hr with hr | hr
    · exact Int.le_trans (k.lers r hr) h
    · rw [List.mem_singleton] at hr; rw [hr]; exact Int.le_refl _
  · rcases letW_mem hr with e | hr
    · exact ⟨(m, c), List.mem_append_right _ (.head _), e.symm⟩
    · obtain ⟨q, hq, e⟩ := k.sub r hr
      exact ⟨q, List.mem_append_left _ hq, e⟩
/-! steps -/
section
variable {X : Cx} {K : PySem.W.Frag}
def tTruK (K : PySem.W.Frag) (ta : TE) : TT := fun σ H Q => ta σ H fun x H2 => ∃ k, TruV K x H2 k ∧ Q k H2
theorem g_tru {ta : TE} {σ : L2.St} {H : Hp} {Q : Bool → Hp → Prop} (q : ta σ H fun x H2 => ∃ k, TruV K x H2 k ∧ Q k H2) : tTruK K ta σ H Q := q
end
def flW (lim : Addr) (s t : Int) (pS : Addr) : List (Str × V) := [("limit", .ref lim), ("_most", .int s), ("_length", .int t), ("_sums", .ref pS)]
/-- the list of sums -/
def SumsAt (K : PySem.W.Frag) (H : Hp) (p : Addr) (qs : List (Addr × MC)) : Prop := H p = some (.lst (qs.map fun x => V.ref x.1)) ∧ ∀ x ∈ qs, SqT K H x.1 [.int x.2.1, .int x.2.2]
theorem SumsAt.mono {K : PySem.W.Frag} {H H' : Hp} {p : Addr} {qs : List (Addr × MC)} (h : SumsAt K H p qs) (e : Ex H H') : SumsAt K H' p qs := ⟨ex_at e h.1, fun x hx => ex_sqT e (h.2 x hx)⟩
theorem SumsAt.mut {K : PySem.W.Frag} {H : Hp} {p q : Addr} {o : HO} {ys : List V} {qs : List (Addr × MC)} (h : SumsAt K H p qs) (hq : H q = some (.lst ys)) (hne : p ≠ q) : SumsAt K (upd H q o) p qs := ⟨by rw [upd_ne hne]; exact h.1, fun x hx => sqT_lst hq (h.2 x hx)⟩
/-! limits of two numbers, of any name -/
def LimN (K : PySem.W.Frag) (H : Hp) (p : Addr) (nm w : Str) (gs : List Str) (s t : Int) : Prop := ∃ g n, SqT K H p [.str nm, .str w, .ref g, .ref n] ∧ SqT K H g (gs.map V.str) ∧ SqT K H n [.int s, .int t]
theorem LimN.mono {K : PySem.W.Frag} {H H' : Hp} {p : Addr} {nm wd : Str} {gs : List Str} {s t : Int} (h : LimN K H p nm wd gs s t) (e : Ex H H') : LimN K H' p nm wd gs s t := by
  obtain ⟨g, n, h1, h2, h3⟩ := h
  exact ⟨g, n, ex_sqT e h1, ex_sqT e h2, ex_sqT e h3⟩
theorem LimF.nm {K : PySem.W.Frag} {H : Hp} {p : Addr} {wd : Str} {gs : List Str} {s t : Int} (h : LimF K H p wd gs s t) : LimN K H p "flow1" wd gs s t := h
/-! the walk's state -/
structure WStW (K : PySem.W.Frag) (C m dx p l pS : Addr) (wd : Str) (ns : List Int) (gs : List Str) (s t : Int) (pl pg : Addr) (qs : List (Addr × MC)) (xs : List (Addr × R4)) (H : Hp) : Prop where
  w : WStF K C m dx p l (flW p s t pS) wd ns gs s t pl pg xs H
  u : SumsAt K H pS qs
  ne : pS ≠ pl
section
variable {K : PySem.W.Frag} {H H' : Hp} {p : Addr} {wd : Str} {gs : List Str} {s t : Int} {C m dx pS pS2 l pl pg : Addr} {ns : List Int} {qs qs2 : List (Addr × MC)} {xs : List (Addr × R4)}
theorem WStW.mono (w : WStW K C m dx p l pS wd ns gs s t pl pg qs xs H) (e : Ex H H') : WStW K C m dx p l pS wd ns gs s t pl pg qs xs H' := ⟨w.w.mono e, w.u.mono e, w.ne⟩
end
/-- the state of the many requests -/
structure MSt (K : PySem.W.Frag) (H : Hp) (C m dx p : Addr) (s t : Int) (pS pl : Addr) (qs xs : List (Addr × MC)) (i : Nat) (mo : Int) : Prop where
  hm : H m = some (.ins C dx (flW p s t pS))
  hL : LimN K H p "many" "window" [] s t
  hU : SumsAt K H pS qs
  hX : SumsAt K H pl xs
  ne : pS ≠ pl
  hq : qs.length ≤ i
  hx : xs.length ≤ i
  hk : KeepW t mo (qs.map (·.2)) (xs.map (·.2))
theorem MSt.mono {K : PySem.W.Frag} {H H' : Hp} {C m dx p : Addr} {s t : Int} {pS pl : Addr} {qs xs : List (Addr × MC)} {i : Nat} {mo : Int} (M : MSt K H C m dx p s t pS pl qs xs i mo) (e : Ex H H') : MSt K H' C m dx p s t pS pl qs xs i mo :=
  ⟨ex_at e M.hm, M.hL.mono e, M.hU.mono e, M.hX.mono e, M.ne, M.hq, M.hx, M.hk⟩
/-! the loop of earliest -/
/-! ### values as data; sorted of any data; a dict's items and values -/
mutual
/-- the value is that data: ints, texts, tuples of these -/
inductive Dat (K : PySem.W.Frag) (H : Hp) : V → PyData → Prop
  | int (i : Int) : Dat K H (.int i) (.int i)
  | str (x : Str) : Dat K H (.str x) (.str x)
  | tup {t : Addr} {vs : List V} {ds : List PyData} : SqT K H t vs → DatL K H vs ds → Dat K H (.ref t) (.tuple ds)
inductive DatL (K : PySem.W.Frag) (H : Hp) : List V → List PyData → Prop
  | nil : DatL K H [] []
  | cons {v : V} {d : PyData} {vs : List V} {ds : List PyData} : Dat K H v d → DatL K H vs ds → DatL K H (v :: vs) (d :: ds)
end
section
variable {X : Cx} {pins : List (Addr × Obj)} {σ : L2.St} {H : Hp} {s : Shared}
mutual
theorem Dat.reads (I : Inv X pins σ H s) : ∀ {v : V} {d : PyData} {u : Value}, Dat X.K H v d → RelV v u → Reads s.heap u d []
  | _, _, _, .int i, r => by
    obtain ⟨t, rfl⟩ := r
    exact .int i t
  | _, _, _, .str x, r => by
    obtain ⟨t, rfl⟩ := r
    exact .str x t
  | _, _, _, .tup h l, r => by
    obtain ⟨its, rv, ⟨o, ho, hc, n, hd⟩, _⟩ := I.tuple h
    have ra := DatL.reads I l rv
    cases r
    exact .tuple ho hc hd (by simpa using ra)
theorem DatL.reads (I : Inv X pins σ H s) : ∀ {vs : List V} {ds : List PyData} {us : List Value}, DatL X.K H vs ds → Vals vs us → ReadsAll s.heap us ds []
  | _, _, _, .nil, r => by
    cases r
    exact .nil
  | _, _, _, .cons h l, r => by
    cases r with
    | cons r1 r2 => exact .cons (as := []) (bs := []) (Dat.reads I h r1) (DatL.reads I l r2)
end
end
/-! the views -/
section
variable {X : Cx}
/-- a method of a dict, no arguments -/
def tDM0 (r : V → List V → Hp → VK → Prop) (td : TE) : TE := fun σ H Q => td σ H fun x H1 => (∃ a, x = .ref a ∧ IsD H1 a) ∧ r x [] H1 Q
end
/-! sorted(d.items()) -/
theorem each_map_eq {α : Type} {f : α → Value} : ∀ {us : List Value} {zs : List α}, PySem.W.EachIs (fun u z => u = f z) us zs → us = zs.map f
  | _, _, .nil => rfl
  | _, _, .cons h t => by rw [List.map_cons, ← h, ← each_map_eq t]
/-! steps -/
section
variable {K : PySem.W.Frag} {H : Hp} {Q : VK} {σ : L2.St} {a : Addr} {kvs : List (Key × V)} {v : V} {z : Str}
def rDM0 (r : V → List V → Hp → VK → Prop) : V → Hp → VK → Prop := fun x H1 Q => (∃ a, x = .ref a ∧ IsD H1 a) ∧ r x [] H1 Q
theorem g_dm0 {r : V → List V → Hp → VK → Prop} {td : TE} (q : td σ H fun x H1 => rDM0 r x H1 Q) : tDM0 r td σ H Q := q
instance wk_g_dm0 {r : V → List V → Hp → VK → Prop} {td : TE} : Wk (tDM0 r td σ H Q) (td σ H fun x H1 => rDM0 r x H1 Q) := ⟨fun q_ => g_dm0 q_⟩
def rDP1k (a : Addr) : V → Hp → VK → Prop := fun y H2 Q => ∃ kvs k v, H2 a = some (.dK kvs) ∧ y = kV k ∧ valV kvs k = some v ∧ Q v (upd H2 a (.dK (dropK kvs k)))
def rDP1 (ty : TE) (σ : L2.St) : V → Hp → VK → Prop := fun x H1 Q => ∃ a, x = .ref a ∧ IsD H1 a ∧ ty σ H1 fun y H2 => rDP1k a y H2 Q
theorem g_dpop1 {td ty : TE} (q : td σ H fun x H1 => rDP1 ty σ x H1 Q) : tDPop1 td ty σ H Q := q
instance wk_g_dpop1 {td ty : TE} : Wk (tDPop1 td ty σ H Q) (td σ H fun x H1 => rDP1 ty σ x H1 Q) := ⟨fun q_ => g_dpop1 q_⟩
def rDP2k (a : Addr) (y : V) : V → Hp → VK → Prop := fun z H3 Q => ∃ kvs k, H3 a = some (.dK kvs) ∧ y = kV k ∧ (∀ v, valV kvs k = some v → Q v (upd H3 a (.dK (dropK kvs k)))) ∧ (valV kvs k = none → Q z H3)
def rDP2 (ty tx : TE) (σ : L2.St) : V → Hp → VK → Prop := fun x H1 Q => ∃ a, x = .ref a ∧ IsD H1 a ∧ ty σ H1 fun y H2 => tx σ H2 fun z H3 => rDP2k a y z H3 Q
theorem g_dpop2 {td ty tx : TE} (q : td σ H fun x H1 => rDP2 ty tx σ x H1 Q) : tDPop2 td ty tx σ H Q := q
instance wk_g_dpop2 {td ty tx : TE} : Wk (tDPop2 td ty tx σ H Q) (td σ H fun x H1 => rDP2 ty tx σ x H1 Q) := ⟨fun q_ => g_dpop2 q_⟩
end
/-! ### held: entries, their dict, plain law -/
abbrev EH : Type := Str × Int
def kvsH (es : List EH) : List (Key × V) := es.map fun e => (Sum.inr e.1, V.int e.2)
def sumH (es : List EH) : Int := (es.map (·.2)).sum
/-! sorted entries -/
/-! ### keys that are k and a number -/
def keyN (j : Nat) : Str := ("k" : Str) ++ (toString (j : Int) : Str)
theorem keyN_inj {i j : Nat} (h : keyN i = keyN j) : i = j := by
  have h1 : tl (toString (i : Int) : Str) = tl (toString (j : Int) : Str) := by
    have := congrArg tl h
    unfold keyN at this
    rw [tl_append, tl_append] at this
    exact List.append_cancel_left this
  obtain ⟨k, hk, hk1, hk2⟩ : ∃ k, 0 < k ∧ i < 10 ^ k ∧ j < 10 ^ k := by
    refine ⟨i + j + 1, by omega, ?_, ?_⟩
    · exact Nat.lt_of_lt_of_le (Nat.lt_pow_self (by decide : 1 < 10)) (Nat.pow_le_pow_right (by decide) (by omega))
    · exact Nat.lt_of_lt_of_le (Nat.lt_pow_self (by decide : 1 < 10)) (Nat.pow_le_pow_right (by decide) (by omega))
  have a1 := num_back (i := (i : Int)) (k := k) (by omega) hk (by simpa using hk1)
  have a2 := num_back (i := (j : Int)) (k := k) (by omega) hk (by simpa using hk2)
  rw [h1, a2] at a1
  have := Option.some.inj a1
  omega
theorem keyN_new {j : Nat} : ("new" : Str) ≠ keyN j := by
  intro h
  have h1 := congrArg tl h
  unfold keyN at h1
  rw [tl_append] at h1
  have h2 : tl ("new" : Str) = [110, 101, 119] := by decide +kernel
  have h3 : tl ("k" : Str) = [107] := by decide +kernel
  rw [h2, h3] at h1
  cases h1
def KeysLt (i : Nat) (zs : List Str) : Prop := ∀ z ∈ zs, ∃ j : Nat, j < i ∧ z = keyN j
theorem KeysLt.up {i : Nat} {zs : List Str} (h : KeysLt i zs) : KeysLt (i + 1) zs := fun z hz => by
  obtain ⟨j, hj, e⟩ := h z hz
  exact ⟨j, by omega, e⟩
theorem KeysLt.fresh {i : Nat} {zs : List Str} (h : KeysLt i zs) : keyN i ∉ zs := fun hz => by
  obtain ⟨j, hj, e⟩ := h _ hz
  have := keyN_inj e
  omega
theorem KeysLt.new {i : Nat} {zs : List Str} (h : KeysLt i zs) : ("new" : Str) ∉ zs := fun hz => by
  obtain ⟨j, _, e⟩ := h _ hz
  exact keyN_new e
theorem KeysLt.snoc {i : Nat} {zs : List Str} (h : KeysLt i zs) : KeysLt (i + 1) (zs ++ [keyN i]) := fun z hz => by
  rcases List.mem_append.mp hz with hz | hz
  · exact h.up z hz
  · rw [List.mem_singleton] at hz
    exact ⟨i, by omega, hz⟩
theorem KeysLt.sub {i : Nat} {zs ys : List Str} (h : KeysLt i zs) (hs : ∀ y ∈ ys, y ∈ zs) : KeysLt i ys := fun y hy => h y (hs y hy)
/-! ### what is held -/
def keyR (x : Addr × R4) : Str := x.2.2.2.2
/-! ### limits of one number -/
def LimH (K : PySem.W.Frag) (H : Hp) (p : Addr) (nm : Str) (gs : List Str) (s : Int) : Prop := ∃ g n, SqT K H p [.str nm, .str "held", .ref g, .ref n] ∧ SqT K H g (gs.map V.str) ∧ SqT K H n [.int s]
/-- what stands, but the objects at m and at d -/
def ExD (m d : Addr) (H H' : Hp) : Prop := ∀ b o, b ≠ m → b ≠ d → H b = some o → H' b = some o
theorem ExD.of {m d : Addr} {H H' : Hp} (e : Ex H H') : ExD m d H H' := fun b o _ _ h => e b o h
theorem ExD.trans {m d : Addr} {H H' H2 : Hp} (e : ExD m d H H') (e2 : ExD m d H' H2) : ExD m d H H2 := fun b o h1 h2 h => e2 b o h1 h2 (e b o h1 h2 h)
theorem ExD.mut {m d q : Addr} {H H' : Hp} {o : HO} (e : ExD m d H H') (h : H q = none) : ExD m d H (L2.upd H' q o) := fun b u h1 h2 hu => by
  rw [upd_ne (fun z => by rw [z, h] at hu; cases hu)]
  exact e b u h1 h2 hu
theorem ExD.free {m d q : Addr} {H H' : Hp} (e : ExD m d H H') (h1 : q ≠ m) (h2 : q ≠ d) (h : H' q = none) : H q = none := by
  cases hq : H q with
  | none => rfl
  | some o => rw [e q o h1 h2 hq] at h; cases h
def flD (lim : Addr) (s : Int) (d : Addr) (u : Int) : List (Str × V) := [("limit", .ref lim), ("_most", .int s), ("_costs", .ref d), ("_used", .int u)]
/-- the meter -/
structure MAt (H : Hp) (C m dx p : Addr) (s : Int) (d : Addr) (es : List EH) : Prop where
  hm : H m = some (.ins C dx (flD p s d (sumH es)))
  hd : H d = some (.dK (kvsH es))
section
variable {K : PySem.W.Frag} {H H' : Hp} {C m dx p d : Addr} {s : Int} {es : List EH} {nm : Str} {gs : List Str}
theorem MAt.mono (M : MAt H C m dx p s d es) (e : Ex H H') : MAt H' C m dx p s d es := ⟨ex_at e M.hm, ex_at e M.hd⟩
theorem MAt.ne (M : MAt H C m dx p s d es) : m ≠ d := fun z => by have := M.hm; rw [z, M.hd] at this; cases this
theorem MAt.lst {q : Addr} {vs : List V} (M : MAt H C m dx p s d es) (e : ExD m d H H') (h : H q = some (.lst vs)) : H' q = some (.lst vs) := e q _ (fun z => by rw [z, M.hm] at h; cases h) (fun z => by rw [z, M.hd] at h; cases h) h
theorem MAt.dK {q : Addr} {vs : List (Key × V)} (M : MAt H C m dx p s d es) (e : ExD m d H H') (hq : q ≠ d) (h : H q = some (.dK vs)) : H' q = some (.dK vs) := e q _ (fun z => by rw [z, M.hm] at h; cases h) hq h
theorem LimH.mono {q : Addr} (h : LimH K H q nm gs s) (e : Ex H H') : LimH K H' q nm gs s := by
  obtain ⟨g, n, h1, h2, h3⟩ := h
  exact ⟨g, n, ex_sqT e h1, ex_sqT e h2, ex_sqT e h3⟩
theorem LimH.lst {q pl : Addr} {ys : List V} {o : HO} (h : LimH K H q nm gs s) (hA : H pl = some (.lst ys)) : LimH K (upd H pl o) q nm gs s := by
  obtain ⟨g, n, h1, h2, h3⟩ := h
  exact ⟨g, n, sqT_lst hA h1, sqT_lst hA h2, sqT_lst hA h3⟩
end
/-! ### tuples of entries as data -/
/-! ### the walk's state -/
structure WStH (K : PySem.W.Frag) (C m dx p l d : Addr) (ns : List Int) (gs : List Str) (s : Int) (pl pg : Addr) (es : List EH) (xs : List (Addr × R4)) (gone : List Str) (H : Hp) : Prop where
  M : MAt H C m dx p s d es
  hL : LimH K H p "held1" gs s
  hS : SqL K H l (ns.map V.int)
  hA : H pl = some (.lst (xs.map fun x => V.ref x.1))
  hG : H pg = some (.lst (gone.map V.str))
  hR : RowsG K H xs
section
variable {K : PySem.W.Frag} {C m dx p l d : Addr} {ns : List Int} {gs : List Str} {s : Int} {pl pg : Addr} {es es2 : List EH} {xs : List (Addr × R4)} {gone : List Str} {H H' : Hp}
theorem WStH.mono (w : WStH K C m dx p l d ns gs s pl pg es xs gone H) (e : Ex H H') : WStH K C m dx p l d ns gs s pl pg es xs gone H' :=
  ⟨w.M.mono e, w.hL.mono e, ex_sqL e w.hS, ex_at e w.hA, ex_at e w.hG, w.hR.mono e⟩
end
/-- the state of the many requests -/
structure MSH (K : PySem.W.Frag) (H : Hp) (C m dx p : Addr) (s : Int) (d hd : Addr) (es : List EH) : Prop where
  M : MAt H C m dx p s d es
  hL : LimH K H p "many" [] s
  hH : H hd = some (.dK (kvsH es))
  ne : hd ≠ d
section
variable {K : PySem.W.Frag} {H H' : Hp} {C m dx p d hd : Addr} {s : Int} {es es2 : List EH}
theorem MSH.mono (w : MSH K H C m dx p s d hd es) (e : Ex H H') : MSH K H' C m dx p s d hd es := ⟨w.M.mono e, w.hL.mono e, ex_at e w.hH, w.ne⟩
end
/-! ### steps: a value or another one, d[k], dict comprehensions, comprehensions over items, new tuples in a comprehension -/
section
variable {X : Cx} {K : PySem.W.Frag} {H : Hp} {Q : VK} {σ : L2.St}
theorem g_orT {ta tb : TE} (q : ta σ H fun x H1 => ∃ k, TruV K x H1 k ∧ if k = true then Q x H1 else tb σ H1 Q) : tOrT K ta tb σ H Q := q
instance wk_g_orT {ta tb : TE} : Wk (tOrT K ta tb σ H Q) (ta σ H fun x H1 => ∃ k, TruV K x H1 k ∧ if k = true then Q x H1 else tb σ H1 Q) := ⟨fun q_ => g_orT q_⟩
def rDGet : V → V → Hp → VK → Prop := fun x y H2 Q => ∃ a v, x = .ref a ∧ DGet H2 a y (some v) ∧ Q v H2
theorem g_dget {td ty : TE} (q : td σ H fun x H1 => ty σ H1 fun y H2 => rDGet x y H2 Q) : tDGet td ty σ H Q := q
instance wk_g_dget {td ty : TE} : Wk (tDGet td ty σ H Q) (td σ H fun x H1 => ty σ H1 fun y H2 => rDGet x y H2 Q) := ⟨fun q_ => g_dget q_⟩
theorem g_dgetS {a : Addr} {kvs : List (Key × V)} {z : Str} {v : V} (h : H a = some (.dK kvs)) (hv : valV kvs (Sum.inr z) = some v) (q : Q v H) : rDGet (.ref a) (.str z) H Q := ⟨a, v, rfl, by rw [← hv]; exact DGet.k (k := Sum.inr z) h, q⟩
end
/-! ### pools: plain law -/
abbrev S3 : Type := Str × Int × Int
abbrev E3 : Type := Str × Str × Int
def kvsG {α : Type} (key : α → Str) (val : α → V) (es : List α) : List (Key × V) := es.map fun e => (Sum.inr (key e), val e)
/-- what a group uses -/
def useP (es : List E3) (n : Str) : Int := ((es.filter fun e => decide (e.2.1 = n)).map (·.2.2)).sum
def usesK (sh : List S3) (es : List E3) : List (Key × V) := sh.map fun s => (Sum.inr s.1, V.int (useP es s.1))
/-! what is held -/
def e3R (x : Addr × R4) : E3 := (keyR x, x.2.2.1, x.2.2.2.1)
/-! ### pools: limits and meters in the heap -/
def LimP (K : PySem.W.Frag) (H : Hp) (p : Addr) (nm : Str) (most : Int) (sh : List S3) : Prop := ∃ (g n t : Addr) (ads : List (Addr × S3)), SqT K H p [.str nm, .str "pool", .ref g, .ref n] ∧ SqT K H g [] ∧ SqT K H n [.int most, .ref t] ∧ SqT K H t (ads.map fun x => V.ref x.1) ∧ (∀ x ∈ ads, SqT K H x.1 [.str x.2.1, .int x.2.2.1, .int x.2.2.2]) ∧ ads.map (·.2) = sh ∧ sh.length ≤ 8
def flP (lim dC dU : Addr) : List (Str × V) := [("limit", .ref lim), ("_costs", .ref dC), ("_uses", .ref dU)]
def costsK (es : List (Addr × E3)) : List (Key × V) := kvsG (fun x : Addr × E3 => x.2.1) (fun x => V.ref x.1) es
/-- the meter -/
structure MAtP (K : PySem.W.Frag) (H : Hp) (C m dx p dC dU : Addr) (sh : List S3) (es : List E3) : Prop where
  hm : H m = some (.ins C dx (flP p dC dU))
  hc : ∃ ads : List (Addr × E3), ads.map (·.2) = es ∧ H dC = some (.dK (costsK ads)) ∧ ∀ x ∈ ads, SqT K H x.1 [.str x.2.2.1, .int x.2.2.2]
  hu : H dU = some (.dK (usesK sh es))
  ne : dC ≠ dU
  hg : ∀ e ∈ es, e.2.1 ∈ sh.map (·.1)
section
variable {K : PySem.W.Frag} {H H' : Hp} {C m dx p dC dU : Addr} {most : Int} {sh : List S3} {es es2 : List E3} {nm : Str}
theorem MAtP.mono (M : MAtP K H C m dx p dC dU sh es) (e : Ex H H') : MAtP K H' C m dx p dC dU sh es := by
  obtain ⟨ads, h1, h2, h3⟩ := M.hc
  exact ⟨ex_at e M.hm, ⟨ads, h1, ex_at e h2, fun x hx => ex_sqT e (h3 x hx)⟩, ex_at e M.hu, M.ne, M.hg⟩
theorem MAtP.lst {q : Addr} {vs : List V} (M : MAtP K H C m dx p dC dU sh es) (e : ExD dC dU H H') (h : H q = some (.lst vs)) : H' q = some (.lst vs) := by
  obtain ⟨ads, _, h2, _⟩ := M.hc
  exact e q _ (fun z => by rw [z, h2] at h; cases h) (fun z => by rw [z, M.hu] at h; cases h) h
theorem LimP.mono {q : Addr} (h : LimP K H q nm most sh) (e : Ex H H') : LimP K H' q nm most sh := by
  obtain ⟨g, n, t, ads, h1, h2, h3, h4, h5, h6⟩ := h
  exact ⟨g, n, t, ads, ex_sqT e h1, ex_sqT e h2, ex_sqT e h3, ex_sqT e h4, fun x hx => ex_sqT e (h5 x hx), h6⟩
theorem LimP.lst {q pl : Addr} {ys : List V} {o : HO} (h : LimP K H q nm most sh) (hA : H pl = some (.lst ys)) : LimP K (upd H pl o) q nm most sh := by
  obtain ⟨g, n, t, ads, h1, h2, h3, h4, h5, h6⟩ := h
  exact ⟨g, n, t, ads, sqT_lst hA h1, sqT_lst hA h2, sqT_lst hA h3, sqT_lst hA h4, fun x hx => sqT_lst hA (h5 x hx), h6⟩
end
/-! sorted entries -/
def WE (K : PySem.W.Frag) (e : E3) (y : V) (H : Hp) : Prop := ∃ t, y = .ref t ∧ SqT K H t [.str e.1, .str e.2.1, .int e.2.2]
theorem WE.mono {K : PySem.W.Frag} {e : E3} {y : V} {H H' : Hp} (w : WE K e y H) (x : Ex H H') : WE K e y H' := by
  obtain ⟨t, h1, h2⟩ := w
  exact ⟨t, h1, ex_sqT x h2⟩
theorem WE.lst {K : PySem.W.Frag} {e : E3} {y : V} {H : Hp} {D : Addr} {acc : List V} {o : HO} (w : WE K e y H) (hD : H D = some (.lst acc)) : WE K e y (upd H D o) := by
  obtain ⟨t, h1, h2⟩ := w
  exact ⟨t, h1, sqT_lst hD h2⟩
/-! ### the walk's state -/
structure WStP (K : PySem.W.Frag) (C m dx p l dC dU : Addr) (ns : List Int) (most : Int) (sh : List S3) (pl pg : Addr) (es : List E3) (xs : List (Addr × R4)) (gone : List Str) (H : Hp) : Prop where
  M : MAtP K H C m dx p dC dU sh es
  hL : LimP K H p "pool1" most sh
  hS : SqL K H l (ns.map V.int)
  hA : H pl = some (.lst (xs.map fun x => V.ref x.1))
  hG : H pg = some (.lst (gone.map V.str))
  hR : RowsG K H xs
section
variable {K : PySem.W.Frag} {C m dx p l dC dU : Addr} {ns : List Int} {most : Int} {sh : List S3} {pl pg : Addr} {es es2 : List E3} {xs : List (Addr × R4)} {gone : List Str} {H H' : Hp}
theorem WStP.mono (w : WStP K C m dx p l dC dU ns most sh pl pg es xs gone H) (e : Ex H H') : WStP K C m dx p l dC dU ns most sh pl pg es xs gone H' :=
  ⟨w.M.mono e, w.hL.mono e, ex_sqL e w.hS, ex_at e w.hA, ex_at e w.hG, w.hR.mono e⟩
end
/-! ### dict comprehensions, comprehensions over items -/
section
variable {X : Cx} {K : PySem.W.Frag} {H : Hp} {Q : VK} {σ : L2.St}
def DcOk (J : It) (g : TG) (tt : TT) (tk tv : TE) (vs : List Nat) (Q : VK) (σ : L2.St) (H1 : Hp) : Prop := ∀ D, H1 D = none → ∃ W : Nat → Nat → Hp → Prop, (∃ m, W 0 m (upd H1 D (.dK []))) ∧ ∀ i m H, W i m H →
  (J.stop i H ∧ Q (.ref D) H) ∨ (J.go i H ∧ ∃ Nx : Hp → Prop, (∀ H', Nx H' → ∃ m', m' < m ∧ W (i + 1) m' H') ∧ ∀ x H', J.yld i H x H' → g x (wipe σ vs) H' fun σ2 H2 => wipe σ2 vs = wipe σ vs ∧ tt σ2 H2 fun b H3 =>
    if b = true then tk σ2 H3 fun y H4 => tv σ2 H4 fun z H5 => ∃ kvs k, y = kV k ∧ H5 D = some (.dK kvs) ∧ kvs.length < sizeLine ∧ Nx (upd H5 D (.dK (putK kvs k z))) else Nx H3)
theorem g_dc {wi : TI} {g : TG} {tt : TT} {tk tv : TE} {vs : List Nat} (q : wi σ H fun J H1 => DcOk J g tt tk tv vs Q σ H1) : tDc wi g tt tk tv vs σ H Q := q
instance wk_g_dc {wi : TI} {g : TG} {tt : TT} {tk tv : TE} {vs : List Nat} : Wk (tDc wi g tt tk tv vs σ H Q) (wi σ H fun J H1 => DcOk J g tt tk tv vs Q σ H1) := ⟨fun q_ => g_dc q_⟩
def rIItems (R : It → Hp → Prop) : VK := fun x H1 => ∃ d o kvs, x = .ref d ∧ H1 d = some (.frz o (.dK kvs)) ∧ R (Iti d o kvs) H1
theorem g_iItems {td : TE} {R : It → Hp → Prop} (q : td σ H (rIItems R)) : iItems td σ H R := q
instance wk_g_iItems {td : TE} {R : It → Hp → Prop} : Wk (iItems td σ H R) (td σ H (rIItems R)) := ⟨fun q_ => g_iItems q_⟩
end
/-! ### steps for pools -/
/-! ### many requests -/
structure MSP (K : PySem.W.Frag) (H : Hp) (C m dx p dC dU : Addr) (most : Int) (sh : List S3) (ph : Addr) (xs : List (Addr × R4)) : Prop where
  M : MAtP K H C m dx p dC dU sh (xs.map e3R)
  hL : LimP K H p "many" most sh
  hA : H ph = some (.lst (xs.map fun x => V.ref x.1))
  hR : RowsG K H xs
section
variable {K : PySem.W.Frag} {H H' : Hp} {C m dx p dC dU ph : Addr} {most : Int} {sh : List S3} {xs ys : List (Addr × R4)}
theorem MSP.mono (w : MSP K H C m dx p dC dU most sh ph xs) (e : Ex H H') : MSP K H' C m dx p dC dU most sh ph xs := ⟨w.M.mono e, w.hL.mono e, ex_at e w.hA, w.hR.mono e⟩
end
/-! ### sets of texts: set(xs), len, sorted -/
def keyS (e : Int × Value) : Str := match e.2 with
  | .str x _ => x
  | _ => Str.empty
def OkS (P : Program) (w : World) (e : Int × Value) : Prop := ∃ x tk, e.2 = .str x tk ∧ e.1 = (PySem.strKind P w).hash x
/-- a set of the texts of xs, with a table that can be walked -/
def TextSet (P : Program) (w : World) (h : Heap) (a : Addr) (xs : List Str) : Prop :=
  ∃ o es ep t, h.get? a = some o ∧ o.ExactSet ∧ o.data = .set es ep t ∧ (∀ e ∈ es.toList, OkS P w e) ∧ (es.toList.map keyS).Nodup ∧ (∀ k, k ∈ es.toList.map keyS ↔ k ∈ xs) ∧ es.size ≤ xs.length ∧ t.fits es.size = true ∧ Ris t.place.toList ∧ (w.params.followText "set-order" = true ∨ t.led = true)
section
variable {P : Program} {w : World} {h h' : Heap} {a : Addr} {xs : List Str}
theorem TextSet.at (R : TextSet P w h a xs) (k : ∀ o, h.get? a = some o → h'.get? a = some o) : TextSet P w h' a xs := by
  obtain ⟨o, es, ep, t, ho, r⟩ := R
  exact ⟨o, es, ep, t, k o ho, r⟩
theorem okS_elems {l : List (Int × Value)} (g : ∀ e ∈ l, OkS P w e) : ElemsOf (PySem.strKind P w) l := fun e he => by
  obtain ⟨x, tk, h1, h2⟩ := g e he
  exact ⟨⟨x, by rw [h1]; exact strKind_is _ _ _ _, h2⟩, by rw [h1]; rfl⟩
theorem okS_is {e : Int × Value} (g : OkS P w e) (k : Str) : (PySem.strKind P w).is k e.2 = true ↔ keyS e = k := by
  obtain ⟨x, tk, h1, _⟩ := g
  have hx : (PySem.strKind P w).is x e.2 = true := by rw [h1]; exact strKind_is _ _ _ _
  have hk : keyS e = x := by unfold keyS; rw [h1]
  rw [hk]
  constructor
  · exact fun hh => (PySem.strKind P w).inj _ _ _ hx hh
  · intro hh
    rw [← hh]
    exact hx
theorem okS_mem {l : List (Int × Value)} (g : ∀ e ∈ l, OkS P w e) (k : Str) : k ∈ l.map keyS ↔ ∃ e ∈ l, (PySem.strKind P w).is k e.2 = true := by
  rw [List.mem_map]
  constructor
  · rintro ⟨e, he, q⟩
    exact ⟨e, he, (okS_is (g e he) k).2 q⟩
  · rintro ⟨e, he, q⟩
    exact ⟨e, he, (okS_is (g e he) k).1 q⟩
theorem textSet_new (ho : h.get? a = some { cls := .type "set", dict := none, data := .set #[] 0 (.fresh 0 0 (!w.params.followText "set-order")) }) : TextSet P w h a [] :=
  ⟨_, #[], 0, _, ho, ⟨rfl, rfl, rfl⟩, rfl, (fun e he => by simp at he), (by simp), (fun k => by simp), Nat.le_refl _, (by rfl), List.Pairwise.nil, by
    show _ ∨ (!w.params.followText "set-order") = true
    cases w.params.followText "set-order"
    · exact .inr rfl
    · exact .inl rfl⟩
end
section
variable {P : Program} {w : World} {A : Around} {E : Value → Shared → Prop} {s : Shared} {a : Addr} {xs : List Str}
/-- what stands behind storing a new row of entries -/
theorem textSet_store {g : Bool → Sem Unit} (hg : ∀ (b : Bool) (s₁ : Shared) (Q' : Unit → Shared → Prop), Q' () s₁ → wpAny (model P w) A (g b) Q' E s₁)
    {o : Obj} {es : Array (Int × Value)} {ep : Nat} {t : SetTable} (ho : s.heap.get? a = some o) (hex : o.ExactSet) (hd : o.data = .set es ep t)
    {es1 : Array (Int × Value)} {t2 : SetTable} {ys : List Str} (g1 : ∀ e ∈ es1.toList, OkS P w e) (nd1 : (es1.toList.map keyS).Nodup) (m1 : ∀ k, k ∈ es1.toList.map keyS ↔ k ∈ ys)
    (hle : es1.size ≤ ys.length) (hb1 : es1.size < scanBound) (hf2 : t2.fits es1.size = true) (hr : Ris t2.place.toList) (hl : w.params.followText "set-order" = true ∨ t2.led = true) {wasDummy : Bool} {R : Option Bool → Shared → Prop}
    (hR : ∀ h', Heap.SameBut a s.heap h' → TextSet P w h' a ys → R (some true) { s with heap := h' }) :
    wpAny (model P w) A (do
        storeSet a es1 t2
        if (!wasDummy && t2.tooFull) = true then do
            g (relayAll t2 es1 (SetTable.grown es1.size)).2.2
            storeSet a (relayAll t2 es1 (SetTable.grown es1.size)).1 (relayAll t2 es1 (SetTable.grown es1.size)).2.1
            pure (some true)
          else pure (some true)) R E s := by
  refine wpAny_bind (wpAny_storeSet_of ho hd ?_ (fits_of_scanBound hb1))
  have ho1 := store_at (es' := es1) (t' := t2) ho hd
  have sb1 := Heap.SameBut.update s.heap a (Obj.putSet es1 t2)
  split
  · have pm := relayAll_perm t2 es1 (SetTable.grown es1.size)
    have hf3 := relayAll_fits t2 es1 (SetTable.grown es1.size)
    have hr3 := relayAll_ris t2 es1 (SetTable.grown es1.size)
    have hl3 := relayAll_led t2 es1 (SetTable.grown es1.size)
    generalize relayAll t2 es1 (SetTable.grown es1.size) = Z at pm hf3 hr3 hl3 ⊢
    obtain ⟨es2, t3, gave⟩ := Z
    dsimp only at pm hf3 hr3 hl3 ⊢
    have hsz : es2.size = es1.size := by rw [← Array.length_toList, pm.length_eq, Array.length_toList]
    refine wpAny_bind (hg _ _ _ ?_)
    refine wpAny_bind (wpAny_storeSet_of ho1 rfl ?_ (fits_of_scanBound (by rw [hsz]; exact hb1)))
    have ho2 := store_at (es' := es2) (t' := t3) ho1 rfl
    refine wpAny_pure (hR _ (sb1.trans (Heap.SameBut.update _ a _)) ?_)
    exact ⟨_, es2, _, t3, ho2, hex, rfl, fun e he => g1 e (pm.mem_iff.mp he), (pm.map keyS).nodup_iff.mpr nd1, fun k => (pm.map keyS).mem_iff.trans (m1 k), by rw [hsz]; exact hle, hf3, hr3, hl.imp id fun z => by rw [hl3]; exact z⟩
  · exact wpAny_pure (hR _ sb1 ⟨_, es1, _, t2, ho1, hex, rfl, g1, nd1, m1, hle, hf2, hr, hl⟩)
theorem textSet_add {k : Str} {tk : Tok} {Q : Bool → Shared → Prop} (R : TextSet P w s.heap a xs) (room : xs.length + 1 < scanBound)
    (hQ : ∀ b h', Heap.SameBut a s.heap h' → TextSet P w h' a (xs ++ [k]) → Q b { s with heap := h' }) :
    wpAny (model P w) A (setAddHashed a (.str k tk) ((PySem.strKind P w).hash k)) Q E s := by
  obtain ⟨o, es, ep, t, ho, hex, hd, g, nd, hm, hn, hf, hr, hl⟩ := R
  have hb : es.size < scanBound := by omega
  have hkey : (PySem.strKind P w).is k (.str k tk) = true := strKind_is _ _ _ _
  have hsc : (Value.str k tk).scannable = true := rfl
  have hel : ElemsOf (PySem.strKind P w) es.toList := okS_elems g
  unfold setAddHashed setAddHashedIn
  refine wpAny_holding (wpAny_bind (wpAny_setState_of ho hd hf ?_))
  dsimp only
  rw [byScan_of hsc hb hel]
  simp only [↓reduceIte]
  unfold setAddByScan
  refine wpAny_bind ?_
  refine wpAny_bind (wpAny_rule ?_)
  refine wpAny_bind (wpAny_setScan_of hkey ho hd hf hel ?_)
  cases hfi : List.findIdx? (fun e => (PySem.strKind P w).is k e.2) es.toList with
  | some j =>
    dsimp only
    obtain ⟨hj, pj, _⟩ := List.findIdx?_eq_some_iff_getElem.mp hfi
    have hk : k ∈ xs := (hm k).1 ((okS_mem g k).2 ⟨es.toList[j], List.getElem_mem hj, pj⟩)
    refine wpAny_pure (wpAny_pure (hQ _ s.heap (Heap.SameBut.refl a s.heap) ⟨o, es, ep, t, ho, hex, hd, g, nd, fun i => ?_, by rw [List.length_append]; show _ ≤ _ + 1; omega, hf, hr, hl⟩))
    rw [hm i, List.mem_append, List.mem_singleton]
    exact ⟨.inl, fun z => z.elim id fun e => by rw [e]; exact hk⟩
  | none =>
    dsimp only
    have hnk : k ∉ es.toList.map keyS := fun z => by
      obtain ⟨e, he, q⟩ := (okS_mem g k).1 z
      have c := List.findIdx?_eq_none_iff.mp hfi e he
      rw [q] at c
      cases c
    have hgw : ∀ (b : Bool) {s₁ : Shared} {Q' : Unit → Shared → Prop}, Q' () s₁ → wpAny (model P w) A (match b with | true => rule "set.scan.the-table-gave-way" | false => pure ()) Q' E s₁ :=
      fun b s₁ Q' q => by cases b <;> first | exact wpAny_pure q | exact wpAny_rule q
    have pm := layNew_perm t es ((PySem.strKind P w).hash k) (.str k tk)
    have hf1 := layNew_fits t es ((PySem.strKind P w).hash k) (.str k tk)
    have hr1 := layNew_ris t es ((PySem.strKind P w).hash k) (.str k tk) hr
    have hl1 := layNew_led t es ((PySem.strKind P w).hash k) (.str k tk)
    generalize layNew t es ((PySem.strKind P w).hash k) (.str k tk) = Z at pm hf1 hr1 hl1 ⊢
    obtain ⟨es1, t1, wasDummy, gave⟩ := Z
    dsimp only at pm hf1 hr1 hl1 ⊢
    rw [Array.toList_push] at pm
    have pc : es1.toList.Perm (((PySem.strKind P w).hash k, Value.str k tk) :: es.toList) := pm.trans (List.perm_append_singleton _ _)
    have pk : (es1.toList.map keyS).Perm (k :: es.toList.map keyS) := pc.map keyS
    have g1 : ∀ e ∈ es1.toList, OkS P w e := fun e he => by
      rcases List.mem_cons.mp (pc.mem_iff.mp he) with z | z
      · rw [z]; exact ⟨k, tk, rfl, rfl⟩
      · exact g e z
    have nd1 : (es1.toList.map keyS).Nodup := pk.nodup_iff.mpr (List.nodup_cons.mpr ⟨hnk, nd⟩)
    have m1 : ∀ i, i ∈ es1.toList.map keyS ↔ i ∈ xs ++ [k] := fun i => by
      rw [pk.mem_iff, List.mem_cons, hm i, List.mem_append, List.mem_singleton]
      exact Or.comm
    have hsz : es1.size = es.size + 1 := by rw [← Array.length_toList, pc.length_eq, List.length_cons, Array.length_toList]
    have hle : es1.size ≤ (xs ++ [k]).length := by rw [hsz, List.length_append]; show _ ≤ _ + 1; omega
    have hb1 : es1.size < scanBound := by omega
    have hled : w.params.followText "set-order" = true ∨ t1.led = true := hl.imp id fun z => by rw [hl1]; exact z
    refine wpAny_bind (hgw _ ?_)
    split
    · refine wpAny_bind ?_
      rw [hashByValue_scannable 8 hsc]
      refine wpAny_pure ?_
      refine textSet_store ?_ ho hex hd g1 nd1 m1 hle hb1 ?_ ?_ ?_ ?_
      · intro b s₁ Q' q; cases b <;> first | exact wpAny_pure q | exact wpAny_rule q
      · first | (split <;> first | exact hf1 | exact SetTable.fits_plain_off hf1) | exact hf1
      · first | (split <;> exact hr1) | exact hr1
      · first | (split <;> exact hled) | exact hled
      · intro h' sb r; dsimp only; exact wpAny_pure (hQ _ h' sb r)
    · refine wpAny_bind (wpAny_pure ?_)
      simp only [↓reduceIte]
      refine textSet_store ?_ ho hex hd g1 nd1 m1 hle hb1 hf1 hr1 hled ?_
      · intro b s₁ Q' q; cases b <;> first | exact wpAny_pure q | exact wpAny_rule q
      · intro h' sb r; dsimp only; exact wpAny_pure (hQ _ h' sb r)
/-- the loop of set.update over n texts -/
theorem textSet_loop {I : Addr} {fp wr : List Addr} {G : Array GenState → Array GenState → Prop} {n : Nat} {Pv : Nat → Value → Prop} {St : Nat → Shared → Prop} {R : Result → Shared → Prop}
    (W : WalksS P w A.in1 I fp wr G n Pv St) (S : Addr) (hSf : S ∉ fp) (xs : List Str) (hn : n = xs.length) (hb : xs.length + 1 < scanBound) (hval : ∀ i v, Pv i v → ∃ t, v = .str (xs.getD i Str.empty) t) :
    ∀ (k i : Nat) (s : Shared), n - i = k → i ≤ n → St i s → TextSet P w s.heap S (xs.take i) →
      (∀ s', Moved (S :: wr) G s s' → TextSet P w s'.heap S xs → R (.ok (.ret .none)) s') →
      codeAny (model P w) A (.builtin "set.update.loop" ⟨[.ref S, .ref I], []⟩) R s := by
  have hSw : S ∉ wr := fun h => hSf (W.sub _ h)
  have hsub : ∀ b ∈ wr, b ∈ S :: wr := fun b hb => List.mem_cons_of_mem _ hb
  intro k
  induction k with
  | zero =>
    intro i s hk' hi hst hS hR
    have hin : i = n := by omega
    subst hin
    refine codeAny_builtin PyProof.Rows.F.entry_set_update_loop ?_
    rw [Around.under_plainId PyProof.Rows.F.plain_set_update_loop _]
    show wpAny _ A.in1 (pyNext (.ref I) >>= _) _ _ s
    refine wpAny_bind (W.done s _ _ hst fun s' hm => ?_)
    show wpAny _ A.in1 (ret Value.none) _ _ s'
    rw [List.take_of_length_le (by omega)] at hS
    exact wpAny_pure (hR s' (hm.mono hsub) (hS.at fun o e => hm.heap S o hSw e))
  | succ k ih =>
    intro i s hk' hi hst hS hR
    have hlt : i < n := by omega
    refine codeAny_builtin PyProof.Rows.F.entry_set_update_loop ?_
    rw [Around.under_plainId PyProof.Rows.F.plain_set_update_loop _]
    show wpAny _ A.in1 (pyNext (.ref I) >>= _) _ _ s
    refine wpAny_bind (W.item i s _ _ hlt hst fun v s' hP hst' hm => ?_)
    obtain ⟨t, rfl⟩ := hval i v hP
    have hS' : TextSet P w s'.heap S (xs.take i) := hS.at fun o e => hm.heap S o hSw e
    show wpAny _ A.in1 (holding [Value.str (xs.getD i Str.empty) t] (setAdd S (.str (xs.getD i Str.empty) t)) >>= _) _ _ s'
    refine wpAny_bind (wpAny_holding ?_)
    unfold setAdd
    refine wpAny_holding ?_
    refine wpAny_bind ((PySem.strKind P w).pyHash (k := xs.getD i Str.empty) (strKind_is _ _ _ _) ?_)
    refine textSet_add (s := { s' with toks := s'.toks + 1 }) hS' (by rw [List.length_take]; omega) fun b h' hsb hS2 => ?_
    have hS3 : TextSet P w h' S (xs.take (i + 1)) := by
      have e : xs.take (i + 1) = xs.take i ++ [xs.getD i Str.empty] := by
        rw [List.take_add_one, List.getD_eq_getElem?_getD, List.getElem?_eq_getElem (by omega)]
        rfl
      rw [e]
      exact hS2
    refine wpAny_pure ⟨plainId_quiet PyProof.Rows.F.plain_set_update_loop _, ih (i + 1) _ (by omega) hlt (W.frame _ s' _ _ hst' (Nat.le_succ _) fun b hb o e => ?_) hS3 fun s'' hm'' hS'' => ?_⟩
    · rw [hsb.2 b (fun h : b = S => hSf (by rw [← h]; exact hb))]; exact e
    · refine hR s'' (Moved.trans W.gtrans ((hm.mono hsub).then_heap (Nat.le_succ _) fun b o hb e => ?_) hm'') hS''
      rw [hsb.2 b (fun h : b = S => hb (by rw [h]; exact List.mem_cons_self))]; exact e
end
/-! rules -/
def textsO (P : Program) (w : World) (a : Addr) (xs : List Str) : HO := .ext fun h => TextSet P w h a xs
section
variable {X : Cx}
theorem textsO_new {w : World} {P : Program} {H : Hp} {h : Heap} {a : Addr} {xs : List Str} (R : TextSet P w h a xs) : ObjOk P w H h a (textsO P w a xs) :=
  ⟨R, (by obtain ⟨o, _, _, _, ho, _⟩ := R; exact ⟨o, ho⟩), fun h1 h2 x k => x.at k⟩
/-- len(s) -/
def rLenT (P : Program) (w : World) : List V → Hp → VK → Prop := fun vs H Q => ∃ (a : Addr) (xs : List Str), vs = [V.ref a] ∧ H a = some (textsO P w a xs) ∧ xs.length ≤ 4000 ∧ ∀ ys : List Str, ys.Nodup → (∀ k, k ∈ ys ↔ k ∈ xs) → Q (.int ys.length) H
theorem call_lenT : CallR X (.builtin "len") (rLenT X.prog X.w) := by
  intro pins s σ H vs us Q I r h
  obtain ⟨a, xs, rfl, ha, hx, q⟩ := h
  obtain rfl := Vals.ref1 r
  obtain ⟨o, es, ep, t, ho, hex, hd, g, nd, hm, hn, hf, hr, hl⟩ := (show ObjOk X.prog X.w H s.heap a (textsO X.prog X.w a xs) from I.hok a _ ha).1
  have hlen : (es.toList.map keyS).length = es.size := by rw [List.length_map, Array.length_toList]
  refine call_len_set ho hex hd hf ?_ ⟨.int (es.toList.map keyS).length, H, I.tok _, ⟨_, by rw [hlen]⟩, q _ nd hm⟩
  omega
theorem call_lenTK {P : Program} {w : World} (h1 : X.prog = P) (h2 : X.w = w) : CallR X (.builtin "len") (rLenT P w) := by subst h1 h2; exact call_lenT
theorem vals_strs : ∀ {vs : List Value}, (∀ v ∈ vs, ∃ x tk, v = Value.str x tk) → Vals (vs.map fun v => V.str (keyS (0, v))) vs
  | [], _ => .nil
  | v :: vs, hv => by
    obtain ⟨x, tk, rfl⟩ := hv v List.mem_cons_self
    exact .cons ⟨tk, rfl⟩ (vals_strs fun u hu => hv u (List.mem_cons_of_mem _ hu))
theorem each_strs {h : Heap} {P : Program} {w : World} : ∀ {vs : List Value}, (∀ v ∈ vs, ∃ x tk, v = Value.str x tk) → PySem.W.EachIs (fun u (v : Value) => u = v) vs vs ∧ PySem.W.EachIs (fun u (v : Value) => ∃ as, Reads h u (PyData.str (keyS (0, v))) as) vs vs
  | [], _ => ⟨.nil, .nil⟩
  | v :: vs, hv => by
    obtain ⟨i1, i2⟩ := each_strs (h := h) (P := P) (w := w) fun u hu => hv u (List.mem_cons_of_mem _ hu)
    obtain ⟨x, tk, rfl⟩ := hv v List.mem_cons_self
    exact ⟨.cons rfl i1, .cons ⟨[], .str x tk⟩ i2⟩
end
/-! ### sorted(xs, key=f), f a def of the text -/
theorem g_cKw {r : List V → List V → Hp → VK → Prop} {t tk : TA} {σ : L2.St} {H : Hp} {Q : VK} (q : t σ H fun vs H1 => tk σ H1 fun zs H2 => r vs zs H2 Q) : tCKw r t tk σ H Q := q
instance wk_g_cKw {r : List V → List V → Hp → VK → Prop} {t tk : TA} {σ : L2.St} {H : Hp} {Q : VK} : Wk (tCKw r t tk σ H Q) (t σ H fun vs H1 => tk σ H1 fun zs H2 => r vs zs H2 Q) := ⟨fun q_ => g_cKw q_⟩
/-! ### comparisons of four -/
def tChain3 (r1 r2 r3 : R2) (ta tb tc td : TE) : TE := fun σ H Q => ta σ H fun x H1 => tb σ H1 fun y H2 => r1 x y H2 fun z H3 => ∃ k, z = .bl k ∧
  (if k = true then tc σ H3 fun u H4 => r2 y u H4 fun z' H5 => ∃ k', z' = .bl k' ∧ (if k' = true then td σ H5 fun w' H6 => r3 u w' H6 Q else Q (.bl false) H5) else Q (.bl false) H3)
theorem g_chain3 {r1 r2 r3 : R2} {ta tb tc td : TE} {σ : L2.St} {H : Hp} {Q : VK} (q : ta σ H fun x H1 => tb σ H1 fun y H2 => r1 x y H2 fun z H3 => ∃ k, z = .bl k ∧
  (if k = true then tc σ H3 fun u H4 => r2 y u H4 fun z' H5 => ∃ k', z' = .bl k' ∧ (if k' = true then td σ H5 fun w' H6 => r3 u w' H6 Q else Q (.bl false) H5) else Q (.bl false) H3)) : tChain3 r1 r2 r3 ta tb tc td σ H Q := q
instance wk_g_chain3 {r1 r2 r3 : R2} {ta tb tc td : TE} {σ : L2.St} {H : Hp} {Q : VK} : Wk (tChain3 r1 r2 r3 ta tb tc td σ H Q) (ta σ H fun x H1 => tb σ H1 fun y H2 => r1 x y H2 fun z H3 => ∃ k, z = .bl k ∧   (if k = true then tc σ H3 fun u H4 => r2 y u H4 fun z' H5 => ∃ k', z' = .bl k' ∧ (if k' = true then td σ H5 fun w' H6 => r3 u w' H6 Q else Q (.bl false) H5) else Q (.bl false) H3)) := ⟨fun q_ => g_chain3 q_⟩
/-! ### a dict of the module -/
/-! ### a dict display -/
def rDisp (p : Addr) (ps : List (V × V)) : Hp → VK → Prop := fun H2 Q => H2 p = some (.dK []) ∧ ∃ kvs : List (Key × V), ps = kvs.map (fun kv => (kV kv.1, kv.2)) ∧ kvs.length ≤ 15 ∧ Q (.ref p) (upd H2 p (.dK (mergeK [] kvs)))
section
variable {σ : L2.St} {H : Hp} {Q : VK} {p : Addr}
theorem g_disp {trs : List (TE × TE)} (q : ∀ p, H p = none → tPairs trs σ (upd H p (.dK [])) fun ps H2 => rDisp p ps H2 Q) : tDisp trs σ H Q := q
theorem g_pcons {tk tv : TE} {r : List (TE × TE)} {R : List (V × V) → Hp → Prop} (q : tk σ H fun x H1 => tv σ H1 fun y H2 => tPairs r σ H2 fun ps H3 => R ((x, y) :: ps) H3) : tPairs ((tk, tv) :: r) σ H R := q
instance wk_g_pcons {tk tv : TE} {r : List (TE × TE)} {R : List (V × V) → Hp → Prop} : Wk (tPairs ((tk, tv) :: r) σ H R) (tk σ H fun x H1 => tv σ H1 fun y H2 => tPairs r σ H2 fun ps H3 => R ((x, y) :: ps) H3) := ⟨fun q_ => g_pcons q_⟩
theorem g_pnil {R : List (V × V) → Hp → Prop} (q : R [] H) : tPairs [] σ H R := q
instance wk_g_pnil {R : List (V × V) → Hp → Prop} : Wk (tPairs [] σ H R) (R [] H) := ⟨fun q_ => g_pnil q_⟩
theorem g_dispE {ps : List (V × V)} (kvs : List (Key × V)) (he : H p = some (.dK [])) (hp : ps = kvs.map (fun kv => (kV kv.1, kv.2))) (hl : kvs.length ≤ 15) (q : Q (.ref p) (upd H p (.dK (mergeK [] kvs)))) : rDisp p ps H Q := ⟨he, kvs, hp, hl, q⟩
end
/-! ### zip of tuples -/
/-! ### limits of the six words -/
abbrev Shr : Type := Str × Int × Int
inductive Nu where
  | flat (ns : List Int)
  | pool (m : Int) (sh : List Shr)
structure Lm where
  nm : Str
  wd : Str
  gs : List Str
  nu : Nu
def million : Int := 1000000
def strLt (x y : Str) : Prop := x.cps.toList < y.cps.toList
def Asc (xs : List Str) : Prop := xs.Pairwise strLt
/-- the numbers of a word other than pool -/
def FlatOk (wd : Str) (ns : List Int) : Prop := ((wd = "window" ∨ wd = "span" ∨ wd = "bucket") ∧ ∃ a b, ns = [a, b] ∧ 0 ≤ a ∧ a ≤ million ∧ 1 ≤ b ∧ b ≤ million) ∨
  (wd = "gap" ∧ ∃ b, ns = [b] ∧ 1 ≤ b ∧ b ≤ million) ∨ (wd = "held" ∧ ∃ a, ns = [a] ∧ 0 ≤ a ∧ a ≤ million)
def Nu.Ok (wd : Str) (gs : List Str) : Nu → Prop
  | .flat ns => FlatOk wd ns ∧ gs.length ≤ 8 ∧ Asc gs
  | .pool m sh => wd = "pool" ∧ gs = [] ∧ 1 ≤ sh.length ∧ sh.length ≤ 8 ∧ Asc (sh.map (·.1)) ∧ (∀ s ∈ sh, isName s.1 = true ∧ 0 ≤ s.2.1 ∧ s.2.1 ≤ s.2.2 ∧ s.2.2 ≤ million) ∧ 0 ≤ m ∧ m ≤ million ∧ (sh.map (·.2.1)).sum ≤ m
def Lm.Ok (l : Lm) : Prop := isName l.nm = true ∧ (∀ g ∈ l.gs, isName g = true) ∧ l.nu.Ok l.wd l.gs
/-- how it stands in the heap -/
def NuAt (K : PySem.W.Frag) (H : Hp) (p : Addr) : Nu → Prop
  | .flat ns => SqT K H p (ns.map V.int)
  | .pool m sh => ∃ (q : Addr) (xs : List (Addr × Shr)), SqT K H p [.int m, .ref q] ∧ SqT K H q (xs.map fun x => V.ref x.1) ∧ xs.map (·.2) = sh ∧ ∀ x ∈ xs, SqT K H x.1 [.str x.2.1, .int x.2.2.1, .int x.2.2.2]
def LmAt (K : PySem.W.Frag) (H : Hp) (p : Addr) (l : Lm) : Prop := ∃ g n : Addr, SqT K H p [.str l.nm, .str l.wd, .ref g, .ref n] ∧ SqT K H g (l.gs.map V.str) ∧ NuAt K H n l.nu
section
variable {K : PySem.W.Frag} {H H' : Hp} {p : Addr} {l : Lm}
theorem NuAt.mono {n : Nu} (h : NuAt K H p n) (e : Ex H H') : NuAt K H' p n := by
  cases n with
  | flat ns => exact ex_sqT e h
  | pool m sh =>
    obtain ⟨q, xs, h1, h2, h3, h4⟩ := h
    exact ⟨q, xs, ex_sqT e h1, ex_sqT e h2, h3, fun x hx => ex_sqT e (h4 x hx)⟩
theorem LmAt.mono (h : LmAt K H p l) (e : Ex H H') : LmAt K H' p l := by
  obtain ⟨g, n, h1, h2, h3⟩ := h
  exact ⟨g, n, ex_sqT e h1, ex_sqT e h2, h3.mono e⟩
end
/-- as data -/
def shrD (s : Shr) : PyData := .tuple [.str s.1, .int s.2.1, .int s.2.2]
def Nu.data : Nu → PyData
  | .flat ns => .tuple (ns.map PyData.int)
  | .pool m sh => .tuple [.int m, .tuple (sh.map shrD)]
def Lm.data (l : Lm) : PyData := .tuple [.str l.nm, .str l.wd, .tuple (l.gs.map PyData.str), l.nu.data]
/-- limits in a list -/
def LmsAt (K : PySem.W.Frag) (H : Hp) (xs : List (Addr × Lm)) : Prop := ∀ x ∈ xs, LmAt K H x.1 x.2
theorem LmsAt.mono {K : PySem.W.Frag} {H H' : Hp} {xs : List (Addr × Lm)} (h : LmsAt K H xs) (e : Ex H H') : LmsAt K H' xs := fun x hx => (h x hx).mono e
theorem str_ext {x y : Str} (h : x.cps.toList = y.cps.toList) : x = y := by
  cases x
  cases y
  simp only [Str.mk.injEq]
  exact Array.toList_inj.mp h
theorem asc_of {ys : List Str} (hn : ys.Nodup) (h : ys.Pairwise fun x y => x.cps.toList ≤ y.cps.toList) : Asc ys := by
  have h2 := List.Pairwise.and hn h
  refine h2.imp fun {x y} ⟨h1, h3⟩ => ?_
  unfold strLt
  exact Std.lt_of_le_of_ne h3 fun e => h1 (str_ext e)
/-! rules -/
def rIxQ (K : PySem.W.Frag) : R2 := fun x y H Q => rIxL K x y H Q ∨ rIxT K x y H Q
section
variable {X : Cx} {K : PySem.W.Frag}
theorem ix_seqK (h : X.K = K) : IxR X (rIxQ K) := by
  subst h
  intro value slice pins s σ H x y v u Q I rx ry q hs
  rcases q with q | q
  · exact ix_list value slice pins s σ H x y v u Q I rx ry q hs
  · exact ix_tup value slice pins s σ H x y v u Q I rx ry q hs
end
section
variable {K : PySem.W.Frag} {H : Hp} {Q : VK} {σ : L2.St} {p : Addr}
/-- a list or a tuple -/
def SqQ (K : PySem.W.Frag) (H : Hp) (p : Addr) (xs : List V) : Prop := SqL K H p xs ∨ SqT K H p xs
theorem SqQ.mono {H' : Hp} {xs : List V} (h : SqQ K H p xs) (e : Ex H H') : SqQ K H' p xs := h.imp (fun z => ex_sqL e z) fun z => ex_sqT e z
theorem g_lenQ {xs : List V} (h : SqQ K H p xs) (q : Q (.int xs.length) H) : rLen K [.ref p] H Q := ⟨p, xs, rfl, h, q⟩
theorem g_ixQ {xs : List V} {i : Int} {v : V} (h : SqQ K H p xs) (ha : atI xs i = some v) (q : Q v H) : rIxQ K (.ref p) (.int i) H Q := h.imp (fun z => g_ixL z ha q) fun z => g_ixT z ha q
theorem at_strs2 {zs : List Str} {i : Nat} (h : i < zs.length) : atI (zs.map V.str) (i : Int) = some (.str (zs.getD i Str.empty)) := by
  refine atI_nat ?_
  rw [List.getElem?_map, List.getElem?_eq_getElem h, List.getD_eq_getElem?_getD, List.getElem?_eq_getElem h]
  rfl
end
def ascB (zs : List Str) : Bool := (List.range (zs.length - 1)).all fun i => decide ((zs.getD i Str.empty).cps.toList < (zs.getD (i + 1) Str.empty).cps.toList)
theorem ascB_of {zs : List Str} (h : Asc zs) : ascB zs = true := by
  unfold ascB
  rw [List.all_eq_true]
  intro i hi
  have hi2 : i + 1 < zs.length := by have := List.mem_range.mp hi; omega
  refine decide_eq_true ?_
  rw [List.getD_eq_getElem?_getD, List.getD_eq_getElem?_getD, List.getElem?_eq_getElem hi2, List.getElem?_eq_getElem (show i < zs.length by omega)]
  exact List.pairwise_iff_getElem.mp h i (i + 1) (by omega) hi2 (by omega)
theorem isName_ok {z : Str} (h : isName z = true) : PyData.strOk z = true := part_ok (isName_part h)
/-! comprehensions of new things -/
theorem nodup_le : ∀ {ys zs : List Str}, ys.Nodup → (∀ y ∈ ys, y ∈ zs) → ys.length ≤ zs.length
  | [], _, _, _ => Nat.zero_le _
  | y :: ys, zs, hn, h => by
    obtain ⟨h1, h2⟩ := List.nodup_cons.mp hn
    have hy : y ∈ zs := h y List.mem_cons_self
    have := nodup_le (ys := ys) (zs := zs.erase y) h2 fun x hx => (List.mem_erase_of_ne (fun e => h1 (by rw [← e]; exact hx))).mpr (h x (List.mem_cons_of_mem _ hx))
    rw [List.length_erase_of_mem hy] at this
    have hz : 0 < zs.length := List.length_pos_of_mem hy
    rw [List.length_cons]
    omega
/-! data that can be compared -/
def LayD (n : Nat) (d : PyData) : Prop := d.canLay0 = true ∧ d.depth ≤ n
theorem LayD.shaped {n : Nat} {d : PyData} (h : LayD n d) (hn : n ≤ 64) : SeqAt.shaped d = true := by
  unfold SeqAt.shaped
  rw [h.1, decide_eq_true (show d.depth ≤ 64 by have := h.2; omega)]
  rfl
theorem LayD.le {n m : Nat} {d : PyData} (h : LayD n d) (hn : n ≤ m) : LayD m d := ⟨h.1, Nat.le_trans h.2 hn⟩
/-! ### sorted of pairs (text, any object), the texts different -/
def IsSp (h : Heap) (v : Value) (x : Str) : Prop := ∃ a o t c n, v = .ref a ∧ h.get? a = some o ∧ o.cls = .type "tuple" ∧ o.data = .seq #[.str x t, .ref c] n
theorem IsSp.keeps {h h' : Heap} {v : Value} {x : Str} (p : IsSp h v x) (k : ∀ b o, h.get? b = some o → o.cls = .type "tuple" → h'.get? b = some o) : IsSp h' v x := by
  obtain ⟨a, o, t, u, n, e, ho, hc, hd⟩ := p
  exact ⟨a, o, t, u, n, e, k _ _ ho hc, hc, hd⟩
/-! ### written limits -/
/-! rules -/
section
variable {K : PySem.W.Frag} {H : Hp} {Q : VK} {σ : L2.St} {p : Addr}
def rProp (C : Addr) (sp : Sp) (dvs : List V) (E : XK) (Q : VK) : VK := fun x H1 => ∃ a dx fs, x = .ref a ∧ H1 a = some (.ins C dx fs) ∧ sp (.ref a :: dvs) H1 Q E
theorem g_prop {C : Addr} {sp : Sp} {dvs : List V} {E : XK} {ta : TE} (q : ta σ H (rProp C sp dvs E Q)) : tProp C sp dvs E ta σ H Q := q
instance wk_g_prop {C : Addr} {sp : Sp} {dvs : List V} {E : XK} {ta : TE} : Wk (tProp C sp dvs E ta σ H Q) (ta σ H (rProp C sp dvs E Q)) := ⟨fun q_ => g_prop q_⟩
end
/-! ### classes that are made, and methods, that may raise, within a try -/
def tMakeS (C : Addr) (sp : Sp) (E : L2.St → XK) (t : TA) : TE := fun σ H Q => t σ H fun vs H1 => ∀ x dx, H1 x = none → H1 dx = none → dx ≠ x → sp (.ref x :: vs) (upd (upd H1 dx (.own x)) x (.ins C dx [])) (fun v H2 => v = .non ∧ Q (.ref x) H2) (E σ)
def tMethS (C : Addr) (m : Str) (sp : Sp) (E : L2.St → XK) (ta : TE) (t : TA) : TE := fun σ H Q => ta σ H fun x H1 => ∃ a dx fs, x = .ref a ∧ H1 a = some (.ins C dx fs) ∧ fs.lookup m = none ∧ t σ H1 fun vs H2 => sp (x :: vs) H2 Q (E σ)
section
variable {σ : L2.St} {H : Hp} {Q : VK} {p : Addr}
theorem g_makeS {C : Addr} {sp : Sp} {E : L2.St → XK} {t : TA} (q : t σ H fun vs H1 => ∀ x dx, H1 x = none → H1 dx = none → dx ≠ x → sp (.ref x :: vs) (upd (upd H1 dx (.own x)) x (.ins C dx [])) (fun v H2 => v = .non ∧ Q (.ref x) H2) (E σ)) : tMakeS C sp E t σ H Q := q
instance wk_g_makeS {C : Addr} {sp : Sp} {E : L2.St → XK} {t : TA} : Wk (tMakeS C sp E t σ H Q) (t σ H fun vs H1 => ∀ x dx, H1 x = none → H1 dx = none → dx ≠ x → sp (.ref x :: vs) (upd (upd H1 dx (.own x)) x (.ins C dx [])) (fun v H2 => v = .non ∧ Q (.ref x) H2) (E σ)) := ⟨fun q_ => g_makeS q_⟩
def rMethS (C : Addr) (m : Str) (sp : Sp) (E : L2.St → XK) (t : TA) (σ : L2.St) (Q : VK) : VK := fun x H1 => ∃ a dx fs, x = .ref a ∧ H1 a = some (.ins C dx fs) ∧ fs.lookup m = none ∧ t σ H1 fun vs H2 => sp (x :: vs) H2 Q (E σ)
theorem g_methS {C : Addr} {m : Str} {sp : Sp} {E : L2.St → XK} {ta : TE} {t : TA} (q : ta σ H (rMethS C m sp E t σ Q)) : tMethS C m sp E ta t σ H Q := q
instance wk_g_methS {C : Addr} {m : Str} {sp : Sp} {E : L2.St → XK} {ta : TE} {t : TA} : Wk (tMethS C m sp E ta t σ H Q) (ta σ H (rMethS C m sp E t σ Q)) := ⟨fun q_ => g_methS q_⟩
end
/-! ### data that are equal -/
/-- not all different: there are fewer different ones -/
theorem fewer {ys : List Str} : ∀ {zs : List Str}, ys.Nodup → (∀ k, k ∈ ys ↔ k ∈ zs) → ¬ zs.Nodup → ys.length < zs.length := by
  intro zs hy hm hn
  have key : ∀ zs : List Str, ¬ zs.Nodup → ∃ ws : List Str, ws.length < zs.length ∧ ∀ k, k ∈ zs → k ∈ ws := by
    intro zs
    induction zs with
    | nil => intro h; exact absurd List.nodup_nil h
    | cons z zs ih =>
      intro h
      by_cases hz : z ∈ zs
      · exact ⟨zs, Nat.lt_succ_self _, fun k hk => by
          rcases List.mem_cons.mp hk with rfl | hk
          · exact hz
          · exact hk⟩
      · have h2 : ¬ zs.Nodup := fun hn => h (List.nodup_cons.mpr ⟨hz, hn⟩)
        obtain ⟨ws, w1, w2⟩ := ih h2
        refine ⟨z :: ws, Nat.succ_lt_succ w1, fun k hk => ?_⟩
        rcases List.mem_cons.mp hk with rfl | hk
        · exact List.mem_cons_self
        · exact List.mem_cons_of_mem _ (w2 k hk)
  obtain ⟨ws, w1, w2⟩ := key zs hn
  exact Nat.lt_of_le_of_lt (nodup_le hy fun y h => w2 y ((hm y).mp h)) w1
/-! ### limits of any parts -/
abbrev Rsh := Str × List Int
/-- a part of the numbers: an integer, or a tuple of tuples -/
inductive Ri where
  | i (n : Int)
  | t (ss : List Rsh)
structure Raw where
  nm : Str
  wd : Str
  gs : List Str
  ns : List Ri
def rshV (s : Rsh) : List V := V.str s.1 :: s.2.map V.int
def RiAt (K : PySem.W.Frag) (H : Hp) (x : V) : Ri → Prop
  | .i n => x = .int n
  | .t ss => ∃ (q : Addr) (xs : List (Addr × Rsh)), x = .ref q ∧ SqT K H q (xs.map fun y => V.ref y.1) ∧ xs.map (·.2) = ss ∧ ∀ y ∈ xs, SqT K H y.1 (rshV y.2)
def RisAt (K : PySem.W.Frag) (H : Hp) (xs : List (V × Ri)) : Prop := ∀ x ∈ xs, RiAt K H x.1 x.2
def RawAt (K : PySem.W.Frag) (H : Hp) (p : Addr) (r : Raw) : Prop := ∃ (g n : Addr) (xs : List (V × Ri)), SqT K H p [.str r.nm, .str r.wd, .ref g, .ref n] ∧ SqT K H g (r.gs.map V.str) ∧ SqT K H n (xs.map (·.1)) ∧ xs.map (·.2) = r.ns ∧ RisAt K H xs
section
variable {K : PySem.W.Frag} {H H' : Hp} {p : Addr}
theorem RiAt.mono {x : V} {r : Ri} (h : RiAt K H x r) (e : Ex H H') : RiAt K H' x r := by
  cases r with
  | i n => exact h
  | t ss =>
    obtain ⟨q, xs, h1, h2, h3, h4⟩ := h
    exact ⟨q, xs, h1, ex_sqT e h2, h3, fun y hy => ex_sqT e (h4 y hy)⟩
theorem RisAt.mono {xs : List (V × Ri)} (h : RisAt K H xs) (e : Ex H H') : RisAt K H' xs := fun x hx => (h x hx).mono e
theorem RawAt.mono {r : Raw} (h : RawAt K H p r) (e : Ex H H') : RawAt K H' p r := by
  obtain ⟨g, n, xs, h1, h2, h3, h4, h5⟩ := h
  exact ⟨g, n, xs, ex_sqT e h1, ex_sqT e h2, ex_sqT e h3, h4, h5.mono e⟩
end
/-! what is asked of them -/
/-! plain limits -/
/-! ### isinstance of a caught error without a dict, of any class -/
/-! ### tuples put together, cut -/
theorem op_catAK {X : Cx} {K : PySem.W.Frag} (h : X.K = K) : OpR X (binaryOp .Add) (rCatA K) := by subst h; exact op_catA
theorem g_catA {K : PySem.W.Frag} {H : Hp} {Q : VK} {p r : Addr} {xs ys : List V} (h : SqT K H p xs) (h' : SqT K H r ys) (hz : xs.length + ys.length ≤ 100000) (q : ∀ p' H', Ex H H' → SqT K H' p' (xs ++ ys) → Q (.ref p') H') : rCatA K (.ref p) (.ref r) H Q :=
  ⟨p, r, _, _, rfl, rfl, h, h', Nat.le_trans hz (by rw [sizeLine_eq]; decide), (fun z => q _ _ (Evl.Ex.refl _) (by rw [z]; exact h')), (fun _ z => q _ _ (Evl.Ex.refl _) (by rw [z, List.append_nil]; exact h)), fun _ _ p hp => q _ _ (Evl.Ex.new hp) (.inl (.inl upd_same))⟩
section
variable {P : Program} {w : World} {A : Around} {E : Value → Shared → Prop} {s : Shared}
/-- set(t), t a tuple of texts -/
theorem call_textSetU {l : Addr} {items : Array Value} {xs : List Str} {Q : Value → Shared → Prop} (hh : A.handled = none) (hl : s.heap.IsTuple l items) (hit : StrsAre items.toList xs) (hb : xs.length + 1 < scanBound)
    (h : ∀ (h' : Heap) (tk : Nat), TextSet P w h' s.heap.objs.size xs → (∀ b o, s.heap.get? b = some o → h'.get? b = some o) → Q (.ref s.heap.objs.size) { s with heap := h', toks := tk }) :
    wpAny (model P w) A (call (.type "set") [.ref l]) Q E s := by
  have hsz : items.size = xs.length := by
    have q := StrsAre.len_eq hit
    rw [Array.length_toList] at q
    exact q
  obtain ⟨c, tl, hmro⟩ := PySem.F.called_set.mro
  have hmade := PySem.F.called_set.made
  have hsub := PySem.F.called_set.sub
  refine wpAny_call (codeAny_of_tree ?_)
  show wpAny _ _ (callAny (.type "set") _) _ _ _
  refine wpAny_pure ⟨Code.quiet_builtin _ (by decide +kernel), codeAny_builtin PySem.F.entry_type_call ?_⟩
  rw [Around.under_plain (weight_type_call_type "set" [.ref l] []) rfl]
  have h1 := PySem.F.called_set.notType
  have h2 := PySem.F.called_set.canCreate
  have hct := PySem.F.typeCall_set_1 (.ref l)
  repeat (any_goals (first | assumption | wp_step))
  refine codeAny_mono (code_set_led1 (.ref l) (E := E) (Q₁ := fun obj s₁ => obj = .ref s.heap.objs.size ∧ s₁ = { s with heap := s.heap.push { cls := .type "set", dict := none, data := .set #[] 0 (.fresh 0 0 (!w.params.followText "set-order")) } }) ⟨rfl, rfl⟩) fun r s₁ hr => ?_
  cases r with
  | error e => exact hr
  | ok fl =>
    cases fl with
    | ret obj =>
      obtain ⟨rfl, rfl⟩ := hr
      have hS : (s.heap.push { cls := .type "set", dict := none, data := .set #[] 0 (.fresh 0 0 (!w.params.followText "set-order")) }).get? s.heap.objs.size = some { cls := .type "set", dict := none, data := .set #[] 0 (.fresh 0 0 (!w.params.followText "set-order")) } := Heap.get?_push_size _ rfl
      have hT : Shared.TypeIs { s with heap := s.heap.push { cls := .type "set", dict := none, data := .set #[] 0 (.fresh 0 0 (!w.params.followText "set-order")) } } (.ref s.heap.objs.size) "set" := ⟨_, hS, rfl⟩
      have hli := PySem.F.called_set.init.lookup
      have hbi := PySem.F.called_set.init.bind (.ref s.heap.objs.size)
      repeat (any_goals (first | assumption | wp_step))
      refine codeAny_mono (codeAny_call_builtin (R := wants (fun r s₂ => r = .none ∧ ∃ h' tk, s₂ = { s with heap := h', toks := tk } ∧ TextSet P w h' s.heap.objs.size xs ∧ (∀ b o, s.heap.get? b = some o → h'.get? b = some o)) E)
        PySem.F.called_set.init.plain PySem.F.entry_set_init (check_set_init_1 hT ?_)) fun r₂ s₂ hr₂ => ?_
      · obtain ⟨⟨ocls, odict, odata, oslots⟩, hol, hcl, nl, hdl⟩ := hl
        simp only at hcl hdl
        subst hcl; subst hdl
        have hol' : (s.heap.push { cls := .type "set", dict := none, data := .set #[] 0 (.fresh 0 0 (!w.params.followText "set-order")) }).get? l = some { cls := .type "tuple", dict := odict, data := .seq items nl, slots := oslots } := Heap.get?_push_of_some _ hol
        have hsls := PySem.F.sub_tuple_set
        have hslf := PySem.F.sub_tuple_frozenset
        have hne : (Value.type "tuple" == Value.type "dict") = false := by decide
        have hl1 : (s.heap.push { cls := .type "set", dict := none, data := .set #[] 0 (.fresh 0 0 (!w.params.followText "set-order")) }).IsTuple l items := ⟨_, hol', rfl, nl, rfl⟩
        unfold Builtin.«set.__init__» noKeywords Builtin.Frozenset.updateFrom
        generalize hPI : pyIter = PI
        wp_walk
        subst hPI
        refine wpAny_pyIter_tuple hl1 ?_
        refine wpAny_bind (wpAny_runValue ?_)
        have hlS : l < s.heap.objs.size := Heap.lt_size hol
        have hh3 : A.in1.in1.in1.handled = none := by simp [hh]
        have hneI : l ≠ (s.heap.push { cls := .type "set", dict := none, data := .set #[] 0 (.fresh 0 0 (!w.params.followText "set-order")) }).objs.size := by
          rw [Heap.size_push]; exact Nat.ne_of_lt (Nat.lt_succ_of_lt hlS)
        have hSf : s.heap.objs.size ∉ [(s.heap.push { cls := .type "set", dict := none, data := .set #[] 0 (.fresh 0 0 (!w.params.followText "set-order")) }).objs.size, l] := by
          rw [Heap.size_push]; simp only [List.mem_cons, List.mem_singleton, List.not_mem_nil, or_false, not_or]
          exact ⟨Nat.ne_of_lt (Nat.lt_succ_self _), Nat.ne_of_gt hlS⟩
        have hval : ∀ (i : Nat) (v : Value), items[i]? = some v → ∃ t, v = .str (xs.getD i Str.empty) t := fun i v hv => SS.strs_at hit i v (by rw [Array.getElem?_toList]; exact hv)
        refine textSet_loop ((Walks.tuple hh3 _ l hneI items).toS) s.heap.objs.size hSf xs hsz hb hval (items.size - 0) 0 _ (by omega) (Nat.zero_le _)
          ⟨⟨_, Heap.get?_push_size _ rfl, rfl, rfl⟩, (hl1.push _)⟩ ?hS0 ?hR
        case hS0 =>
          refine textSet_new ?_
          exact Heap.get?_push_of_some _ hS
        case hR =>
          intro s' hm hS'
          obtain ⟨h', g2, d', tk', os'⟩ := s'
          have eg : g2 = s.gens := hm.gens
          have ed : d' = s.drawn := hm.drawn
          have eo : os' = s.os := hm.os
          subst eg; subst ed; subst eo
          show wpAny _ _ _ _ _ _
          refine wpAny_pure ?_
          show wpAny _ _ (ret Value.none) _ _ _
          refine wpAny_pure ⟨rfl, h', tk', rfl, hS', fun b o e => ?_⟩
          have hb0 : b < s.heap.objs.size := Heap.lt_size e
          have hb1 : b ≠ s.heap.objs.size := Nat.ne_of_lt hb0
          have hb2 : b ≠ (s.heap.push { cls := .type "set", dict := none, data := .set #[] 0 (.fresh 0 0 (!w.params.followText "set-order")) }).objs.size := by
            rw [Heap.size_push]; exact Nat.ne_of_lt (Nat.lt_succ_of_lt hb0)
          exact hm.heap b o (by simp only [List.mem_cons, List.mem_singleton, List.not_mem_nil, or_false, not_or]; exact ⟨hb1, hb2⟩) (Heap.get?_push_of_some _ (Heap.get?_push_of_some _ e))
      · cases r₂ with
        | error e => exact hr₂
        | ok fl₂ =>
          cases fl₂ with
          | ret r =>
            obtain ⟨rfl, h', tk, rfl, hS', hk'⟩ := hr₂
            repeat (any_goals (first | assumption | wp_step))
            exact h _ _ hS' hk'
          | _ => exact hr₂.elim
    | _ => exact hr.elim
end
def rSetU (P : Program) (w : World) (K : PySem.W.Frag) : List V → Hp → VK → Prop := fun vs H Q => ∃ (l : Addr) (xs : List Str), vs = [V.ref l] ∧ SqT K H l (xs.map V.str) ∧ xs.length ≤ 4000 ∧ ∀ p, H p = none → Q (.ref p) (upd H p (textsO P w p xs))
theorem call_setU {X : Cx} (hc : X.calm = true) : CallR X (.type "set") (rSetU X.prog X.w X.K) := by
  intro pins s σ H vs us Q I r h
  obtain ⟨l, xs, rfl, hs, hn, q⟩ := h
  obtain rfl := Vals.ref1 r
  obtain ⟨its, rv, pl, hz⟩ := I.tuple hs
  have hsb : scanBound = 4096 := rfl
  refine call_textSetU (I.ok.hd hc) pl (by simpa using strsAre_of rv) (by omega) fun h' tk hS hk => ?_
  have hf : H s.heap.objs.size = none := I.hok.fresh (Nat.le_refl _)
  exact ⟨.ref s.heap.objs.size, upd H s.heap.objs.size (textsO X.prog X.w s.heap.objs.size xs), I.laid (t' := tk) hk (Nat.le_refl _) (textsO_new hS), rfl, q _ hf⟩
theorem call_setUK {X : Cx} {P : Program} {w : World} {K : PySem.W.Frag} (h1 : X.prog = P) (h2 : X.w = w) (h3 : X.K = K) (hc : X.calm = true) : CallR X (.type "set") (rSetU P w K) := by subst h1 h2 h3; exact call_setU hc
theorem g_setU {P : Program} {w : World} {K : PySem.W.Frag} {H : Hp} {Q : VK} {l : Addr} {xs : List Str} (h : SqT K H l (xs.map V.str)) (hn : xs.length ≤ 4000) (q : ∀ p, H p = none → Q (.ref p) (upd H p (textsO P w p xs))) : rSetU P w K [.ref l] H Q := ⟨l, xs, rfl, h, hn, q⟩
/-! ### sorted(t), t a tuple of texts -/
section
variable {X : Cx}
def rSortedU (K : PySem.W.Frag) : List V → Hp → VK → Prop := fun vs H Q => ∃ (a : Addr) (xs : List Str), vs = [V.ref a] ∧ SqT K H a (xs.map V.str) ∧ xs.length ≤ 4000 ∧
  ∀ (ys : List Str) (p : Addr), ys.Perm xs → ys.Pairwise (fun x y => x.cps.toList ≤ y.cps.toList) → H p = none → Q (.ref p) (upd H p (.lst (ys.map V.str)))
theorem vals_keys : ∀ {xs : List Str} {us : List Value}, Vals (xs.map V.str) us → (∀ v ∈ us, ∃ x tk, v = Value.str x tk) ∧ us.map (fun v => keyS (0, v)) = xs
  | [], us, r => by
    cases r
    exact ⟨(fun _ h => nomatch h), rfl⟩
  | x :: xs, us, r => by
    cases r with
    | cons h t =>
      obtain ⟨tk, rfl⟩ := h
      obtain ⟨a, b⟩ := vals_keys t
      refine ⟨fun v hv => ?_, ?_⟩
      · rcases List.mem_cons.mp hv with rfl | hv
        · exact ⟨x, tk, rfl⟩
        · exact a v hv
      · rw [List.map_cons, b]
        rfl
section
variable {prog : Program} {w : World} {A : Around} {E : Value → Shared → Prop} {s : Shared}
/-- what `sorted` collects first: a tuple's parts, into a list that lies behind all that stands -/
theorem collect_tup {Q : List Value → Shared → Prop} {it : Addr} {o : Obj} {its : List Value} {n : Nat} (ho : s.heap.get? it = some o) (hc : o.cls = .type "tuple") (hd : o.data = .seq its.toArray n) (hsz : its.length ≤ sizeLine)
    (hQ : ∀ h' : Heap, s.heap.objs.size ≤ h'.objs.size → (∀ b o', s.heap.get? b = some o' → h'.get? b = some o') → Q its { s with heap := h' }) : wpAny (model prog w) A (collect (.ref it)) Q E s := by
  unfold collect
  refine wpAny_bind (wpAny_runValue (codeAny_builtin F.entry_proto_collect ?_))
  rw [Around.under_plainId F.plain_proto_collect _]
  show wpAny _ A.in1 (newList [] >>= fun l => again (.builtin "list.__iadd__" ⟨[l, .ref it], []⟩)) _ _ s
  refine wpAny_bind (wpAny_newObj_type ?_)
  refine wpAny_pure ⟨plainId_quiet F.plain_list_iadd _, codeAny_builtin F.entry_list_iadd ?_⟩
  rw [Around.under_plainId F.plain_list_iadd _]
  show wpAny _ A.in1 (Builtin.List.listExtendWith (.ref s.heap.objs.size) (.ref it) (.ref s.heap.objs.size)) _ _ _
  have hS : (s.heap.push { cls := .type "list", data := .seq ([] : List Value).toArray }).get? s.heap.objs.size = some { cls := .type "list", data := .seq #[] 0 } := Heap.get?_push_size _ rfl
  have hS2 := Heap.get?_update_self (Obj.mapSeq (· ++ its.toArray)) hS rfl
  generalize hN : (s.heap.push { cls := .type "list", data := .seq ([] : List Value).toArray }).update s.heap.objs.size (Obj.mapSeq (· ++ its.toArray)) = h2 at hS2
  have hsize : s.heap.objs.size ≤ h2.objs.size := by
    rw [← hN, Heap.size_update, Heap.size_push]
    omega
  have hkeep : ∀ b o', s.heap.get? b = some o' → h2.get? b = some o' := fun b o' hb => by
    rw [← hN]
    exact (Heap.get?_update_other _ _ (Nat.ne_of_gt (Heap.lt_size hb))).trans (Heap.get?_push_of_some _ hb)
  have fin : wpAny (model prog w) A (match Value.ref s.heap.objs.size with
      | Value.ref a => do
        match (← load a).data with
          | Data.seq xs _ => pure xs.toList
          | _ => unsupported "internal:collect"
      | _ => unsupported "internal:collect") Q E { s with heap := h2 } := by
    show wpAny _ A (load s.heap.objs.size >>= _) _ _ _
    refine wpAny_bind (wpAny_load hS2 (wpAny_pure ?_))
    have e : ((#[] : Array Value) ++ its.toArray).toList = its := by simp
    show Q ((#[] : Array Value) ++ its.toArray).toList _
    rw [e]
    exact hQ _ hsize hkeep
  refine wpAny_mono (wpAny_extend_seq (hsz := by rw [List.size_toArray]; exact hsz) (A := A) (R := fun r s' => r = .ok (.ret (.ref s.heap.objs.size)) ∧ s' = { s with heap := h2 })
    (s := { s with heap := s.heap.push { cls := .type "list", data := .seq ([] : List Value).toArray } }) _ it _ 0 (.inr rfl) hS (Heap.get?_push_of_some _ ho) hc hd ⟨rfl, by rw [← hN]⟩) (fun f s' h => ?_) (fun e s' h => absurd h.1 (by simp))
  cases f with
  | done f =>
    obtain ⟨e, rfl⟩ := h
    cases e
    exact fin
  | again c' => exact ⟨h.1, codeAny_mono h.2 fun r s'' hr => by obtain ⟨rfl, rfl⟩ := hr; exact fin⟩
end
theorem cr_sortedU (hu : X.A.units + 64 < cLine) : CallR X (.builtin "sorted") (rSortedU X.K) := by
  intro pins s σ H vs us0 Q I r h
  obtain ⟨a, xs, rfl, ha, hx, q⟩ := h
  obtain rfl := Vals.ref1 r
  obtain ⟨its, rv, ⟨o, ho, hc, n, hd⟩, hz0⟩ := I.tuple ha
  obtain ⟨hstr, hkeys⟩ := vals_keys rv
  have hlen0 : its.length = xs.length := by rw [← hkeys, List.length_map]
  refine Calls.call_function_entry kind_sorted plain_sorted entry_sorted (args_sorted1 _) ?_
  unfold Builtin.«sorted»
  refine wpAny_bind (m := checkCount "sorted" 1 1 _) (wpAny_pure ?_)
  refine wpAny_bind (collect_tup (A := X.A.in1) ho hc hd (by rw [hlen0, sizeLine_eq]; omega) fun h' hz k1 => ?_)
  refine wpAny_bind (wpAny_newList ?_ (by rw [hlen0, sizeLine_eq]; omega))
  have hoL : (h'.push (seqObj "list" its.toArray 0)).get? h'.objs.size = some (seqObj "list" its.toArray 0) := Heap.get?_push_size _ rfl
  obtain ⟨e1, e2⟩ := each_strs (h := h'.push (seqObj "list" its.toArray 0)) (P := X.prog) (w := X.w) hstr
  have go := PySem.W.list_sort_data (prog := X.prog) (w := X.w) (A := X.A.in1) (E := X.xe) (s := { s with heap := h'.push (seqObj "list" its.toArray 0) }) (Q := fun _ s' => EP X pins σ Q (.ref h'.objs.size) s') (R := fun u (v : Value) => u = v) (enc := fun v : Value => PyData.str (keyS (0, v))) hoL e1 (by
      refine (PySem.W.each_mem e2).mono fun u v ⟨⟨as, hr⟩, hv⟩ => ?_
      obtain ⟨x, tk, rfl⟩ := hstr v hv
      cases hr
      exact ⟨[], .str _ _, by simp⟩) (PySem.W.AllAlike.of fun _ _ => rfl) (PySem.W.Sortable.others fun v => ⟨(by intro z; cases z), fun _ z => by cases z⟩) (by rw [hlen0, sizeLine_eq]; omega) (fun v hv => by
      show X.A.units + 1 + 1 + 0 < cLine
      omega) fun out ho2 hout => ?_
  · exact wpAny_bind (wpAny_holding (wpAny_mono go (fun _ s' x => wpAny_pure ⟨_, rfl, x⟩) fun _ _ e => e))
  · generalize hM : its.mergeSort (PySem.W.dataLe false fun v : Value => PyData.str (keyS (0, v))) = M at hout
    have hpw : M.Pairwise fun x y => PySem.W.dataLe false (fun v : Value => PyData.str (keyS (0, v))) x y = true := by
      rw [← hM]
      exact PySem.W.sort_pairwise (PySem.W.sortLe_total _ false _) its
    have pM : M.Perm its := by rw [← hM]; exact List.mergeSort_perm _ _
    have eo : out = M := by
      have e := each_map_eq (f := fun v : Value => v) hout
      rw [e, List.map_id']
    have hMs : ∀ v ∈ M, ∃ x tk, v = Value.str x tk := fun v hv => hstr v (pM.mem_iff.mp hv)
    have pk : (M.map fun v => keyS (0, v)).Perm xs := by
      have q2 := pM.map fun v => keyS (0, v)
      rw [hkeys] at q2
      exact q2
    have rv2 : Vals ((M.map fun v => keyS (0, v)).map V.str) out := by
      rw [eo, List.map_map]
      exact vals_strs hMs
    have hpw2 : (M.map fun v => keyS (0, v)).Pairwise fun x y => x.cps.toList ≤ y.cps.toList := by
      rw [List.pairwise_map]
      refine hpw.imp fun {x y} h => ?_
      rw [PySem.W.dataLe_str] at h
      exact of_decide_eq_true h
    obtain ⟨c, hc2⟩ := PyProof.Rows.sortedHeap_at (vs := its) (out := out.toArray) hoL
    have hn0 : H h'.objs.size = none := I.hok.fresh hz
    have hlen : ((M.map fun v => keyS (0, v)).map V.str).length ≤ sizeLine := by
      rw [List.length_map, List.length_map, pM.length_eq, hlen0, sizeLine_eq]
      omega
    have k2 : ∀ b u, s.heap.get? b = some u → (sortedHeap (h'.push (seqObj "list" its.toArray 0)) h'.objs.size its out.toArray).get? b = some u := fun b u e => by
      have q2 := k1 b u e
      have hlt := Heap.lt_size q2
      rw [PyProof.Rows.sortedHeap_old (Nat.ne_of_lt hlt) (by rw [size_push']; exact Nat.lt_succ_of_lt hlt)]
      exact Heap.get?_push_of_some _ q2
    generalize hS2 : sortedHeap (h'.push (seqObj "list" its.toArray 0)) h'.objs.size its out.toArray = hp2 at k2 hc2 ⊢
    have J : Inv X pins σ (upd H h'.objs.size (.lst ((M.map fun v => keyS (0, v)).map V.str))) { s with heap := hp2 } :=
      I.call (ch := []) (Un.laid k2 hz hn0) (I.hok.laid k2 hz ⟨hlen, out, c, rv2, hc2⟩) I.bare (fun _ z => nomatch z)
    show EP X pins σ Q (.ref h'.objs.size) { s with heap := hp2 }
    exact ⟨.ref _, _, J, rfl, q _ _ pk hpw2 hn0⟩
theorem cr_sortedUK {K : PySem.W.Frag} (h : X.K = K) (hu : X.A.units + 64 < cLine) : CallR X (.builtin "sorted") (rSortedU K) := by subst h; exact cr_sortedU hu
end
theorem g_sortU {K : PySem.W.Frag} {H : Hp} {Q : VK} {a : Addr} {xs : List Str} (h : SqT K H a (xs.map V.str)) (hn : xs.length ≤ 4000) (q : ∀ (ys : List Str) (p : Addr), ys.Perm xs → ys.Pairwise (fun x y => x.cps.toList ≤ y.cps.toList) → H p = none → Q (.ref p) (upd H p (.lst (ys.map V.str)))) : rSortedU K [.ref a] H Q := ⟨a, xs, rfl, h, hn, q⟩
/-! ### repr of lists and tuples: in a def that is called while no repr is under way -/
structure FnG (P : Program) (w : World) (K : PySem.W.Frag) (mg : Str → Option Value) (base : Heap) (CX : CXT) (k : Nat) (f : Addr) (fd : FuncData) (ps : List Str) (sp : Sp) : Prop where
  size : ∀ {vs : List V} {H : Hp} {Q : VK} {E : XK}, sp vs H Q E → vs.length = ps.length
  go : ∀ {A : Around} {outer : List Env} {s : Shared} {H : Hp} {args : Args} {us : List Value} {vs : List V} {Q : VK} {E : XK}, A.guards = some [] → Room k A → Env0 P w K mg base A outer s H →
    BindsTo s fd args (ps.zip us) → Vals vs us → sp vs H Q E → codeAny (model P w) A (.call (.ref f) args) (CR CX outer P w H s Q E) s
section
variable {P : Program} {w : World} {K : PySem.W.Frag} {mg : Str → Option Value} {base : Heap} {k : Nat} {f : Addr} {fd : FuncData} {ps N : List Str} {sp : Sp} {x qual : Str} {st : Stmt}
theorem fun_okG (F : Fun K x qual st f fd) (S : FnScope N ps (defScope st)) (hn : ∀ vs H Q E, sp vs H Q E → vs.length = ps.length)
    (hB : ∀ (cdv : Value) (A : Around) (out : List Env) (s : Shared) (H : Hp) (vs : List V) (Q : VK) (E : XK), (A.deeper (envOfC qual (defScope st) s.heap.objs.size f cdv)).guards = some [] → Room k (A.deeper (envOfC qual (defScope st) s.heap.objs.size f cdv)) → sp vs H Q E →
      ∃ t, PSs (cxOf CX0 P w K mg base N qual (defScope st) f cdv A out s H E).nox (defBody st) t ∧ t { nx := fun _ H1 => Q .non H1, rt := Q } (L2.start N vs) H) : FnG P w K mg base CX0 (k + 1) f fd ps sp := by
  obtain ⟨oc, od, kV, doc, pm, an, cdv, ct, osl, hfd, look, hcd⟩ := F.ex
  subst hfd
  refine ⟨fun q => hn _ _ _ _ q, ?_⟩
  intro A out s H args us vs Q E hg hr env hb r q
  have kin := env.mod.kin.keeps fun b o e => (env.bs b o e).1
  have nol := env.mod.nolimit.keeps fun b o e => (env.bs b o e).1
  refine codeAny_call_function hr.depth (kin _ _ look) rfl S.co S.gen rfl (PySem.W.codeRec_of kin hcd) (hb _ _ _ _ ?_)
  refine wpAny_newFunctionEnv_cells S.kind (fun y hy => ?_) (fun env1 he s1 z => ?_)
  · have h1 := S.par y.1 (List.of_mem_zip (show (y.1, y.2) ∈ _ from hy)).1
    exact h1.imp id fun h2 => ⟨h2, PySem.W.cellsFrom_some _ _ _ (.inl h2)⟩
  subst he
  refine ⟨nol.keeps z.toInCall.keep, codeAny_func ?_⟩
  obtain ⟨t, hps, ht⟩ := hB cdv A out s H vs Q E hg (hr.deeper _) q
  have I0 := inv_start (CX := CX0) (E := E) S hr.hd env (hn _ _ _ _ q) r z
  have run := hps.nox.run [] s1 (L2.start N vs) H _ I0 ht
  refine wpAny_mono run (fun fl s2 hfl => ?_) (fun _ _ y => y)
  match fl, hfl with
  | .ret u, ⟨v, σ1, H1, J, rv, hq⟩ => exact ⟨v, H1, J.os, J.bare, J.base, J.hok, rv, hq⟩
  | .next, ⟨σ1, H1, J, hq⟩ => exact ⟨V.non, H1, J.os, J.bare, J.base, J.hok, rfl, hq⟩
  | .brk, ⟨_, _, _, hq⟩ => exact hq.elim
  | .cont, ⟨_, _, _, hq⟩ => exact hq.elim
end
section
variable {P : Program} {w : World} {K : PySem.W.Frag} {mg mb : Str → Option Value} {k : Nat} {fa a : Addr} {fd : FuncData} {x : Str} {sp : Sp} {s : Shared} {vs : List Value} {ns : List Int}
/-- the abstract heap at the law's call: the script alone, if it is no part of the module -/
def scrH (K : PySem.W.Frag) (a : Addr) (vs : List Value) (ns : List Int) : Hp := fun b => if b = a ∧ (K.lookup a).isNone = true then some (.frz { cls := .type "list", data := .seq vs.toArray } (.lst (ns.map V.int))) else none
theorem scrH_at {b : Addr} {u : HO} (h : scrH K a vs ns b = some u) : b = a ∧ K.lookup a = none ∧ u = .frz { cls := .type "list", data := .seq vs.toArray } (.lst (ns.map V.int)) := by
  unfold scrH at h
  by_cases c : b = a ∧ (K.lookup a).isNone = true
  · rw [if_pos c] at h
    exact ⟨c.1, Option.isNone_iff_eq_none.mp c.2, (Option.some.inj h).symm⟩
  · rw [if_neg c] at h
    cases h
theorem scrH_free {b : Addr} (h : b = a → K.lookup a ≠ none) : scrH K a vs ns b = none := by
  cases e : scrH K a vs ns b with
  | none => rfl
  | some u => exact absurd (scrH_at e).2.1 (h (scrH_at e).1)
theorem callG (kin : K.In s.heap) (gns : s.heap.Ns mainGlobals mg) (bns : s.heap.Ns builtinsNs mb) (hbb : ∀ y : Str, y ≠ "__name__" → mb y = bootBuiltins y) (nol : s.heap.NoLimit) (gen0 : s.gens = #[])
    (ha : s.heap.get? a = some { cls := .type "list", data := .seq vs.toArray }) (hv : IntsAre vs ns) (hl : ns.length ≤ sizeLine) (hr : Room k callerA)
    (F : ∀ b0 : Heap, K.In b0 → b0.Ns mainGlobals mg → FnG P w K mg b0 CX0 k fa fd [x] sp) (hb : ∀ (s : Shared) (u : Value), BindsTo s fd ⟨[u], []⟩ [(x, u)])
    (hsp : ∀ H : Hp, Only H → SqL K H a (ns.map V.int) → sp [.ref a] H (fun v _ => v = .bl true) fun _ _ _ => False) :
    codeAny (model P w) callerA (.call (.ref fa) ⟨[.ref a], []⟩) (fun r z => r = .ok (.ret (.bool true)) ∧ OldK s.heap z.heap ∧ z.os = s.os ∧ AllBare z.gens) s := by
  have hvals := vals_ints hv
  have hlen := hv.length
  have hOnly : Only (scrH K a vs ns) := fun b => by
    cases e : scrH K a vs ns b with
    | none => exact .inl rfl
    | some u =>
      obtain ⟨_, _, rfl⟩ := scrH_at e
      exact .inr ⟨_, _, rfl⟩
  have hSq : SqL K (scrH K a vs ns) a (ns.map V.int) := by
    cases e : K.lookup a with
    | none => exact .inl (.inr ⟨_, if_pos ⟨rfl, by rw [e]; rfl⟩⟩)
    | some o =>
      have h1 := kin a o e
      rw [ha] at h1
      cases h1
      exact .inr ⟨_, _, _, e, rfl, rfl, rfl, by rw [List.size_toArray, hlen]; exact hl, by rw [List.toList_toArray]; exact hvals⟩
  have hH : HOk P w (scrH K a vs ns) s.heap := fun b u e => by
    obtain ⟨rfl, _, rfl⟩ := scrH_at e
    exact ⟨ha, by rw [List.length_map]; exact hl, vs, _, hvals, ha⟩
  have nsB : ∀ {b : Addr} {m : Str → Option Value}, s.heap.Ns b m → (hidT s.heap (scrH K a vs ns)).Ns b m := fun {b m} h => by
    obtain ⟨o, es, ep, h1, h2, h3⟩ := h
    refine ⟨o, es, ep, hidT_get h1 (scrH_free fun e _ => ?_), h2, h3⟩
    subst e
    rw [ha] at h1
    cases h1
    cases h2
  have kB : K.In (hidT s.heap (scrH K a vs ns)) := fun b o e => hidT_get (kin b o e) (scrH_free fun z y => by
    subst z
    rw [y] at e
    cases e)
  obtain ⟨mc, nol1, nol2⟩ := nol
  have env : Env0 P w K mg (hidT s.heap (scrH K a vs ns)) callerA [] s (scrH K a vs ns) :=
    { frames := rfl, mod := ⟨kB, nsB gns, ⟨mb, nsB bns, hbb⟩, ⟨mc, nsB nol1, nol2⟩⟩, bs := fun b o e => of_hidT e, bsz := Nat.le_of_eq (hidT_size _ _), funs := trivial, frf := (fun b h => nomatch h), hok := hH, bare := .of_eq gen0 }
  have run := (F _ kB (nsB gns)).go (A := callerA) (us := [.ref a]) (vs := [.ref a]) rfl hr env (hb s (.ref a)) (.cons rfl .nil) (hsp _ hOnly hSq)
  refine codeAny_mono run fun r z hz => ?_
  match r, hz with
  | .ok (.ret u), ⟨v, H1, hos, hbare, hun, hok1, hrel, hq⟩ =>
    subst hq
    cases hrel
    refine ⟨rfl, OldK.of_keep fun b o e => ?_, hos, hbare⟩
    cases c : scrH K a vs ns b with
    | none => exact hun.keep b o e c (fun y => nomatch y) (fun y => nomatch y)
    | some u =>
      obtain ⟨rfl, _, rfl⟩ := scrH_at c
      have h1 := (hok1 b _ (hun.frzs b _ _ c)).1
      rw [ha] at e
      cases e
      exact h1
  | .ok .next, y => exact False.elim y
  | .ok .brk, y => exact False.elim y
  | .ok .cont, y => exact False.elim y
  | .error e, y => exact False.elim y
end
/-- the law's end -/
theorem walk_ofG {l : PySem.W.OpenLaw} {n k : Nat} {q : Program} {loose : List Str} {XP : (Str → Option Value) → Heap → Prop} {YP : World → Heap → Prop} {d : DefRec} {x : Str}
    (hn : l.most = some n) (hn2 : n ≤ sizeLine) (hdf : d.params.defaults = []) (hr : Room k callerA)
    (F : ∀ (w : World) (mg : Str → Option Value) (fa : Addr) (h : Heap), YP w h → h.Ns mainGlobals mg → mg d.name = some (.ref fa) →
      ∃ (K : PySem.W.Frag) (fd : FuncData) (sp : Sp), K.In h ∧ (∀ (s : Shared) (u : Value), BindsTo s fd ⟨[u], []⟩ [(x, u)]) ∧
        (∀ (H : Hp) (a : Addr) (ns : List Int), ns.length ≤ n → Only H → SqL K H a (ns.map V.int) → sp [.ref a] H (fun v _ => v = .bl true) fun _ _ _ => False) ∧
        ∀ b0 : Heap, K.In b0 → b0.Ns mainGlobals mg → FnG l.prog w K mg b0 CX0 k fa fd [x] sp) :
    PySem.W.WalkO q loose XP YP l.row.toRowW d [] (fun f vs => PySem.call f vs) := by
  refine Att.attach_call hn hdf ?_
  intro w s₀ s₁ mg mb fa o pm cd doc a vs ns G Y _ _ _ hmg hobj hints hlen hg
  obtain ⟨K, fd, sp, kin, hb, hsp, hF⟩ := F w mg fa _ Y G.T.g hmg
  exact callG kin G.T.g G.T.b G.T.builtins G.T.nolimit hg hobj hints (by omega) hr hF hb fun H hO hS => hsp H a ns hlen hO hS
theorem walk_ofGK {l : PySem.W.OpenLaw} {n k : Nat} {q : Program} {loose : List Str} {XP : (Str → Option Value) → Heap → Prop} {YP : World → Heap → Prop} {d : DefRec} {K : Params → PySem.W.Frag} {sp : World → Sp} {x : Str}
    (hn : l.most = some n) (hn2 : n ≤ sizeLine) (hdf : d.params.defaults = []) (hr : Room k callerA) (hY : ∀ (w : World) (h : Heap), YP w h → (K w.params).In h)
    (F : ∀ (w : World) (mg : Str → Option Value) (fa : Addr) (h : Heap), (K w.params).In h → h.Ns mainGlobals mg → mg d.name = some (.ref fa) →
      ∃ fd : FuncData, (∀ (s : Shared) (u : Value), BindsTo s fd ⟨[u], []⟩ [(x, u)]) ∧ ∀ b0 : Heap, (K w.params).In b0 → b0.Ns mainGlobals mg → FnG l.prog w (K w.params) mg b0 CX0 k fa fd [x] (sp w))
    (hsp : ∀ (w : World) (H : Hp) (a : Addr) (ns : List Int), ns.length ≤ n → Only H → SqL (K w.params) H a (ns.map V.int) → sp w [.ref a] H (fun v _ => v = .bl true) fun _ _ _ => False) :
    PySem.W.WalkO q loose XP YP l.row.toRowW d [] (fun f vs => PySem.call f vs) :=
  walk_ofG hn hn2 hdf hr fun w mg fa h Y G hmg => by
    obtain ⟨fd, hb, hF⟩ := F w mg fa h (hY w h Y) G hmg
    exact ⟨K w.params, fd, sp w, hY w h Y, hb, hsp w, hF⟩
/-! repr of data -/
def rReprD (K : PySem.W.Frag) : List V → Hp → VK → Prop := fun xs H Q => ∃ (a : Addr) (d : PyData), xs = [.ref a] ∧ Dp K H (.ref a) d ∧ d.showable = true ∧ d.hasDict = false ∧ d.depth ≤ 60 ∧ d.shown.length ≤ sizeLine ∧ Q (.str d.shown) H
theorem call_reprD {X : Cx} {K : PySem.W.Frag} {k : Nat} (hK : X.K = K) (hg : X.A.guards = some []) (hr : Room k X.A) : CallR X (.builtin "repr") (rReprD K) := by
  subst hK
  intro pins s σ H xs us Q I r h
  obtain ⟨a, d, rfl, hd, h1, h2, h3, h4, q⟩ := h
  obtain ⟨u, rfl, rv⟩ := vals1 r
  obtain ⟨as, hrd⟩ := Dp.reads I d (.ref a) u hd rv
  cases rv
  have hu := hr.units
  exact repr_of_reads' hrd h1 (fun y => by rw [h2] at y; cases y) hg (by omega) (fun b o e => e) (fun h' u tk hk => ⟨.str d.shown, H, I.kept hk, ⟨u, rfl⟩, q⟩) h4
theorem g_reprD {K : PySem.W.Frag} {H : Hp} {Q : VK} {a : Addr} {d : PyData} (hd : Dp K H (.ref a) d) (h1 : d.showable = true) (h2 : d.hasDict = false) (h3 : d.depth ≤ 60) (h4 : d.shown.length ≤ sizeLine) (q : Q (.str d.shown) H) : rReprD K [.ref a] H Q := ⟨a, d, rfl, hd, h1, h2, h3, h4, q⟩
/-! ### bodies of records: plain law -/
structure Vw where
  n : Int
  d : Option Int
  hs : List Str
structure KRow where
  k : Str
  g : Str
  c : Int
  m : Int
  lk : List Str
  e : Option Int
  b : Bool
inductive Bdy where
  | view (v : Vw)
  | keep (many entries : Int) (mo : Option Int) (v : Option Vw)
  | key (r : KRow)
  | ent (e : Ent)
def readMo (w : Str) : Option Int := (numOf 10 (tl w)).bind fun m => if m > 1000000000 then none else some m
def readVw : List Str → Option Vw
  | n :: d :: h :: hs => (numOf 6 (tl n)).bind fun k =>
      if (decide (numOf 6 (tl d) = none) && decide (d ≠ "none")) = true then none
      else if (h :: hs).length > 8 then none
      else if (decide ((h :: hs).Nodup) && (h :: hs).all isName) = true then some ⟨k, numOf 6 (tl d), h :: hs⟩ else none
  | _ => none
def readHd : List Str → Option Bdy
  | m :: e :: w :: r => (numOf 6 (tl m)).bind fun m => (numOf 6 (tl e)).bind fun e =>
      if (decide (readMo w = none) && decide (w ≠ "none")) = true then none
      else if r.length = 0 then some (.keep m e (readMo w) none)
      else (readVw r).bind fun v => some (.keep m e (readMo w) (some v))
  | _ => none
def readRef (w ns : Str) (mo : Int) : Option (List Str × Option Int) :=
  if (decide (numOf 12 (tl w) = none) && decide (w ≠ "never")) = true then none
  else if ∃ e, numOf 12 (tl w) = some e ∧ e ≤ mo then none
  else if (Txt.split ns ",").length > 8 then none
  else if (ascB (Txt.split ns ",") && (Txt.split ns ",").all isName) = true then some (Txt.split ns ",", numOf 12 (tl w)) else none
def readKr : List Str → Option KRow
  | k :: g :: c :: m :: w :: r =>
    if (isKey k && isName g) = true then (readMo m).bind fun mo => (numOf 4 (tl c)).bind fun co =>
        if 1 ≤ co ∧ co ≤ 1000 then
          (if r.length = 0 ∧ (w = "let" ∨ w = "back") then some ⟨k, g, co, mo, [], some mo, decide (w = "back")⟩
           else match r with
            | [e, ns] => if w = "refused" then (readRef e ns mo).bind fun p => some ⟨k, g, co, mo, p.1, p.2, false⟩ else none
            | _ => none)
        else none
    else none
  | _ => none
def readBd (z : Str) : Option Bdy := match Txt.split z " " with
  | w :: ws => if w = "ask" ∨ w = "release" then (readEnt z).bind fun e => if e.ok = true then some (.ent e) else none
    else if w = "view" then (readVw ws).map .view
    else if w = "keep" then readHd ws
    else if w = "key" then (readKr ws).map .key
    else none
  | [] => none
/-! what is written -/
def numW : Option Int → Str
  | none => "none"
  | some i => toString i
def vwW (v : Vw) : List Str := (toString v.n : Str) :: numW v.d :: v.hs
def vwB (v : Vw) : Str := Txt.join " " (("view" : Str) :: vwW v)
def hdW (m e : Int) (mo : Option Int) (v : Option Vw) : List Str := [("keep" : Str), (toString m : Str), (toString e : Str), numW mo] ++ (match v with | some v => vwW v | none => [])
def hdB (m e : Int) (mo : Option Int) (v : Option Vw) : Str := Txt.join " " (hdW m e mo v)
def wdOf (r : KRow) : Str := if r.lk.length > 0 then "refused" else if r.b = true then "back" else "let"
def soonW : Option Int → Str
  | none => "never"
  | some i => toString i
def krW (r : KRow) : List Str := [("key" : Str), r.k, r.g, (toString r.c : Str), (toString r.m : Str), wdOf r] ++ (if r.lk.length > 0 then [soonW r.e, Txt.join "," r.lk] else [])
def krB (r : KRow) : Str := Txt.join " " (krW r)
/-! bounds -/
def small (i : Int) : Prop := 0 ≤ i ∧ i < 10000000000000
structure Vw.Ok (v : Vw) : Prop where
  n : small v.n
  d : ∀ i, v.d = some i → small i
  l : v.hs.length ≤ 100
  h : ∀ z ∈ v.hs, z.length ≤ 1000
structure KRow.Ok (r : KRow) : Prop where
  k : r.k.length ≤ 1000
  g : r.g.length ≤ 1000
  c : small r.c
  m : small r.m
  l : r.lk.length ≤ 100
  h : ∀ z ∈ r.lk, z.length ≤ 1000
  e : ∀ i, r.e = some i → small i
theorem small_len {i : Int} (h : small i) : (toString i : Str).length ≤ 13 := len_num h.1 (by decide) (by have := h.2; show _ < 10000000000000; omega)
theorem numW_len {e : Option Int} (h : ∀ i, e = some i → small i) : (numW e).length ≤ 13 := by
  cases e with
  | none => decide +kernel
  | some i => exact small_len (h i rfl)
theorem soonW_len {e : Option Int} (h : ∀ i, e = some i → small i) : (soonW e).length ≤ 13 := by
  cases e with
  | none => decide +kernel
  | some i => exact small_len (h i rfl)
theorem sum_len {B : Nat} : ∀ {zs : List Str}, (∀ z ∈ zs, z.length ≤ B) → (zs.map (·.length)).sum ≤ B * zs.length
  | [], _ => Nat.zero_le _
  | z :: zs, h => by
    have h1 := h z List.mem_cons_self
    have h2 := sum_len fun y hy => h y (List.mem_cons_of_mem _ hy)
    rw [List.map_cons, List.sum_cons, List.length_cons, Nat.mul_succ]
    omega
theorem vwW_len {v : Vw} (h : v.Ok) : (vwW v).length ≤ 102 ∧ ∀ z ∈ vwW v, z.length ≤ 1000 := by
  have h1 := h.l
  refine ⟨by unfold vwW; rw [List.length_cons, List.length_cons]; omega, fun z hz => ?_⟩
  rcases List.mem_cons.mp hz with rfl | hz
  · have := small_len h.n; omega
  rcases List.mem_cons.mp hz with rfl | hz
  · have := numW_len h.d; omega
  exact h.h z hz
theorem join_ok {zs : List Str} (h : zs.length ≤ 300) (hz : ∀ z ∈ zs, z.length ≤ 16000) : (zs.map (·.length)).sum + zs.length * (" " : Str).length ≤ 16777216 := by
  have h1 := sum_len hz
  have h2 : 16000 * zs.length ≤ 16000 * 300 := Nat.mul_le_mul_left _ h
  rw [show (" " : Str).length = 1 from rfl]
  omega
theorem join_countC : ∀ ps : List (List Nat), ps.length ≤ (joinL [44] ps).length + 1
  | [] => Nat.zero_le _
  | [p] => by show 1 ≤ _; omega
  | p :: q :: r => by
    have ih := join_countC (q :: r)
    rw [joinL_cons, List.length_append, List.length_append]
    show (q :: r).length + 1 ≤ p.length + 1 + _ + 1
    omega
theorem split_countC (z : Str) : (Txt.split z ",").length ≤ z.length + 1 := by
  have h1 := join_countC ((Txt.split z ",").map tl)
  rw [List.length_map] at h1
  have h := congrArg tl (StrLaws.join_split z ",")
  rw [tl_join, show tl ("," : Str) = [44] by decide +kernel] at h
  rw [h, ← len_tl] at h1
  exact h1
theorem join_countS : ∀ ps : List (List Nat), ps.length ≤ (joinL [32] ps).length + 1
  | [] => Nat.zero_le _
  | [p] => by show 1 ≤ _; omega
  | p :: q :: r => by
    have ih := join_countS (q :: r)
    rw [joinL_cons, List.length_append, List.length_append]
    show (q :: r).length + 1 ≤ p.length + 1 + _ + 1
    omega
theorem split_countS (z : Str) : (Txt.split z " ").length ≤ z.length + 1 := by
  have h1 := join_countS ((Txt.split z " ").map tl)
  rw [List.length_map] at h1
  have h := congrArg tl (StrLaws.join_split z " ")
  rw [tl_join, show tl (" " : Str) = [32] by decide +kernel] at h
  rw [h, ← len_tl] at h1
  exact h1
/-- the word of a body -/
def Bdy.word : Bdy → Str
  | .view _ => "view"
  | .keep _ _ _ _ => "keep"
  | .key _ => "key"
  | .ent _ => "entry"
/-- the kinds of bodies -/
def kindL : List (Key × V) := [(Sum.inr "ask", .str "entry"), (Sum.inr "release", .str "entry"), (Sum.inr "view", .str "view"), (Sum.inr "keep", .str "keep"), (Sum.inr "key", .str "key")]
theorem kind_merge : mergeK [] kindL = kindL := by kernel_rfl
def kindOf (w : Str) : Option Str := if w = "ask" ∨ w = "release" then some "entry" else if w = "view" then some "view" else if w = "keep" then some "keep" else if w = "key" then some "key" else none
theorem kind_val (w : Str) : valV kindL (Sum.inr w) = (kindOf w).map V.str := by
  unfold kindL kindOf
  have ne : ∀ {x : Str} {v : V} {r : List (Key × V)}, w ≠ x → valV ((Sum.inr x, v) :: r) (Sum.inr w) = valV r (Sum.inr w) := fun h => valV_neg fun e => h (Sum.inr.inj e).symm
  have yes : ∀ {x : Str} {v : V} {r : List (Key × V)}, w = x → valV ((Sum.inr x, v) :: r) (Sum.inr w) = some v := fun h => valV_pos (by rw [h])
  by_cases h1 : w = "ask"
  · rw [yes h1, if_pos (.inl h1)]
    rfl
  rw [ne h1]
  by_cases h2 : w = "release"
  · rw [yes h2, if_pos (.inr h2)]
    rfl
  rw [ne h2, if_neg (fun z => z.elim h1 h2)]
  by_cases h3 : w = "view"
  · rw [yes h3, if_pos h3]
    rfl
  rw [ne h3, if_neg h3]
  by_cases h4 : w = "keep"
  · rw [yes h4, if_pos h4]
    rfl
  rw [ne h4, if_neg h4]
  by_cases h5 : w = "key"
  · rw [yes h5, if_pos h5]
    rfl
  rw [ne h5, if_neg h5]
  rfl
def readPa (k : Str) (ws : List Str) (z : Str) : Option Bdy :=
  if k = "entry" then (readEnt z).bind fun e => if e.ok = true then some (.ent e) else none
  else if k = "view" then (readVw ws).map .view
  else if k = "keep" then readHd ws
  else (readKr ws).map .key
theorem read_kind {z w : Str} {ws : List Str} (h : Txt.split z " " = w :: ws) : readBd z = (kindOf w).bind fun k => readPa k ws z := by
  unfold readBd kindOf
  rw [h]
  dsimp only
  by_cases h1 : w = "ask" ∨ w = "release"
  · rw [if_pos h1, if_pos h1]
    rfl
  rw [if_neg h1, if_neg h1]
  by_cases h3 : w = "view"
  · rw [if_pos h3, if_pos h3]
    rfl
  rw [if_neg h3, if_neg h3]
  by_cases h4 : w = "keep"
  · rw [if_pos h4, if_pos h4]
    rfl
  rw [if_neg h4, if_neg h4]
  by_cases h5 : w = "key"
  · rw [if_pos h5, if_pos h5]
    rfl
  rw [if_neg h5, if_neg h5]
  rfl
theorem kind_word {z w k : Str} {ws : List Str} {b : Bdy} (hk : kindOf w = some k) (h : readPa k ws z = some b) : b.word = k := by
  have hent : ∀ e : Option Ent, (e.bind fun e => if e.ok = true then some (Bdy.ent e) else none) = some b → b.word = "entry" := fun e h => by
    cases e with
    | none => cases h
    | some e =>
      dsimp only [Option.bind_some] at h
      split at h
      · cases h; rfl
      · cases h
  have hmap : ∀ {α : Type} (x : Option α) (f : α → Bdy) (u : Str), (∀ a, (f a).word = u) → x.map f = some b → b.word = u := fun x f u hf h => by
    cases x with
    | none => cases h
    | some a =>
      cases h
      exact hf a
  have hhd : ∀ ws, readHd ws = some b → b.word = "keep" := fun ws h => by
    unfold readHd at h
    split at h
    · rename_i m e x r
      cases hm : numOf 6 (tl m) with
      | none => rw [hm] at h; cases h
      | some mi =>
      rw [hm] at h
      dsimp only [Option.bind_some] at h
      cases he : numOf 6 (tl e) with
      | none => rw [he] at h; cases h
      | some ei =>
      rw [he] at h
      dsimp only [Option.bind_some] at h
      split at h
      · cases h
      · split at h
        · cases h; rfl
        · cases hv : readVw r with
          | none => rw [hv] at h; cases h
          | some v => rw [hv] at h; cases h; rfl
    · cases h
  unfold kindOf at hk
  unfold readPa at h
  split at hk
  · cases hk
    rw [if_pos rfl] at h
    exact hent _ h
  · split at hk
    · cases hk
      rw [if_neg (by decide +kernel), if_pos rfl] at h
      exact hmap _ _ _ (fun _ => rfl) h
    · split at hk
      · cases hk
        rw [if_neg (by decide +kernel), if_neg (by decide +kernel), if_pos rfl] at h
        exact hhd _ h
      · split at hk
        · cases hk
          rw [if_neg (by decide +kernel), if_neg (by decide +kernel), if_neg (by decide +kernel)] at h
          exact hmap _ _ _ (fun _ => rfl) h
        · cases hk
/-! in the heap -/
def VwAt (K : PySem.W.Frag) (H : Hp) (p : Addr) (v : Vw) : Prop := ∃ h, SqT K H p [.int v.n, oN v.d, .ref h] ∧ SqT K H h (v.hs.map V.str)
theorem VwAt.mono {K : PySem.W.Frag} {H H' : Hp} {p : Addr} {v : Vw} (h : VwAt K H p v) (e : Ex H H') : VwAt K H' p v := by
  obtain ⟨a, h1, h2⟩ := h
  exact ⟨a, ex_sqT e h1, ex_sqT e h2⟩
def OVw (K : PySem.W.Frag) (H : Hp) (x : V) : Option Vw → Prop
  | none => x = .non
  | some v => ∃ q, x = .ref q ∧ VwAt K H q v
theorem OVw.mono {K : PySem.W.Frag} {H H' : Hp} {x : V} {v : Option Vw} (h : OVw K H x v) (e : Ex H H') : OVw K H' x v := by
  cases v with
  | none => exact h
  | some v =>
    obtain ⟨q, h1, h2⟩ := h
    exact ⟨q, h1, h2.mono e⟩
def KrAt (K : PySem.W.Frag) (H : Hp) (p : Addr) (r : KRow) : Prop := ∃ l, SqT K H p [.str r.k, .str r.g, .int r.c, .int r.m, .ref l, oN r.e, .bl r.b] ∧ SqT K H l (r.lk.map V.str)
theorem KrAt.mono {K : PySem.W.Frag} {H H' : Hp} {p : Addr} {r : KRow} (h : KrAt K H p r) (e : Ex H H') : KrAt K H' p r := by
  obtain ⟨a, h1, h2⟩ := h
  exact ⟨a, ex_sqT e h1, ex_sqT e h2⟩
/-- the parts of a body in the heap -/
def PaAt (K : PySem.W.Frag) (H : Hp) (q : Addr) : Bdy → Prop
  | .view v => VwAt K H q v
  | .keep m e mo v => ∃ x, SqT K H q [.int m, .int e, oN mo, x] ∧ OVw K H x v
  | .key r => KrAt K H q r
  | .ent e => SqT K H q e.vs
theorem PaAt.mono {K : PySem.W.Frag} {H H' : Hp} {q : Addr} {b : Bdy} (h : PaAt K H q b) (e : Ex H H') : PaAt K H' q b := by
  cases b with
  | view v => exact VwAt.mono h e
  | keep m en mo v =>
    obtain ⟨x, h1, h2⟩ := h
    exact ⟨x, ex_sqT e h1, h2.mono e⟩
  | key r => exact KrAt.mono h e
  | ent en => exact ex_sqT e h
def BdAt (K : PySem.W.Frag) (H : Hp) (p : Addr) (b : Bdy) : Prop := ∃ q, SqT K H p [.str b.word, .ref q] ∧ PaAt K H q b
theorem BdAt.mono {K : PySem.W.Frag} {H H' : Hp} {p : Addr} {b : Bdy} (h : BdAt K H p b) (e : Ex H H') : BdAt K H' p b := by
  obtain ⟨q, h1, h2⟩ := h
  exact ⟨q, ex_sqT e h1, h2.mono e⟩
section
variable {K : PySem.W.Frag} {H : Hp} {σ : L2.St} {T : Addr} {x1 x2 x3 x4 x5 x6 x7 : V} {i1 i2 i3 i4 i5 i6 i7 : Nat} {Qs : L2.St → Hp → Prop}
theorem g_gtup7 (h : SqT K H T [x1, x2, x3, x4, x5, x6, x7]) (q : Qs (((((((σ.set i1 (some x1)).set i2 (some x2)).set i3 (some x3)).set i4 (some x4)).set i5 (some x5)).set i6 (some x6)).set i7 (some x7)) H) :
    gTup K 7 (gCons (gName i1) (gCons (gName i2) (gCons (gName i3) (gCons (gName i4) (gCons (gName i5) (gCons (gName i6) (gCons (gName i7) gNil))))))) (.ref T) σ H Qs :=
  ⟨T, [x1, x2, x3, x4, x5, x6, x7], rfl, h, rfl, x1, [x2, x3, x4, x5, x6, x7], rfl, x2, [x3, x4, x5, x6, x7], rfl, x3, [x4, x5, x6, x7], rfl, x4, [x5, x6, x7], rfl, x5, [x6, x7], rfl, x6, [x7], rfl, x7, [], rfl, rfl, q⟩
end
theorem oN_some {i : Int} : oN (some i) = .int i := rfl
theorem oN_none : oN none = .non := rfl
/-! ### what is written is read back -/
abbrev noSp (z : Str) : Prop := 32 ∉ tl z
theorem noSp_num {i : Int} (h : 0 ≤ i) : noSp (toString i : Str) := by
  unfold noSp
  rw [tl_num' h]
  exact numL_free (.inl (by decide))
theorem noSp_name {z : Str} (h : isName z = true) : noSp z := fun y => by
  have := (isName_part h).plain 32 y
  omega
theorem noSp_key {z : Str} (h : isKey z = true) : noSp z := fun y => by
  have := (isKey_part h).plain 32 y
  omega
theorem noSp_numW {e : Option Int} (h : ∀ i, e = some i → 0 ≤ i) : noSp (numW e) := by
  cases e with
  | none => decide +kernel
  | some i => exact noSp_num (h i rfl)
theorem noSp_soonW {e : Option Int} (h : ∀ i, e = some i → 0 ≤ i) : noSp (soonW e) := by
  cases e with
  | none => decide +kernel
  | some i => exact noSp_num (h i rfl)
theorem noSp_join {zs : List Str} (h : ∀ z ∈ zs, isName z = true) : noSp (Txt.join "," zs) := by
  unfold noSp
  rw [join_eq, tl_join, show tl ("," : Str) = [44] by decide +kernel]
  intro y
  rcases joinL_mem y with y | ⟨p, hp, y⟩
  · simp at y
  · obtain ⟨z, hz, rfl⟩ := List.mem_map.mp hp
    exact noSp_name (h z hz) y
theorem split_words {zs : List Str} (hn : zs ≠ []) (h : ∀ z ∈ zs, noSp z) : Txt.split (Txt.join " " zs) " " = zs := split_join (s := 32) (S := []) rfl (by decide +kernel) hn h
theorem split_names {zs : List Str} (hn : zs ≠ []) (h : ∀ z ∈ zs, 44 ∉ tl z) : Txt.split (Txt.join "," zs) "," = zs := split_join (s := 44) (S := []) rfl (by decide +kernel) hn h
theorem name_44 {z : Str} (h : isName z = true) : 44 ∉ tl z := fun y => by
  unfold isName at h
  have h2 := List.all_eq_true.mp (Bool.and_eq_true_iff.mp h).2 44 y
  revert h2
  decide +kernel
structure Vw.Good (v : Vw) : Prop where
  n0 : 0 ≤ v.n
  n1 : v.n < 1000000
  d : ∀ i, v.d = some i → 0 ≤ i ∧ i < 1000000
  l1 : 1 ≤ v.hs.length
  l8 : v.hs.length ≤ 8
  nd : v.hs.Nodup
  nm : ∀ z ∈ v.hs, isName z = true
theorem key_len {z : Str} (h : isKey z = true) : z.length ≤ 20 := by
  unfold isKey at h
  have h1 := (Bool.and_eq_true_iff.mp (Bool.and_eq_true_iff.mp h).1).2
  have := of_decide_eq_true h1
  omega
theorem Vw.Good.ok {v : Vw} (h : v.Good) : v.Ok :=
  ⟨⟨h.n0, by have := h.n1; omega⟩, fun i hi => ⟨(h.d i hi).1, by have := (h.d i hi).2; omega⟩, by have := h.l8; omega, fun z hz => by have := name_len (h.nm z hz); omega⟩
theorem Vw.Good.free {v : Vw} (h : v.Good) : ∀ z ∈ vwW v, noSp z := fun z hz => by
  rcases List.mem_cons.mp hz with rfl | hz
  · exact noSp_num h.n0
  rcases List.mem_cons.mp hz with rfl | hz
  · exact noSp_numW fun i hi => (h.d i hi).1
  exact noSp_name (h.nm z hz)
theorem readVw_eq {n d : Str} {zs : List Str} (h : 1 ≤ zs.length) : readVw (n :: d :: zs) = (numOf 6 (tl n)).bind fun k => if (decide (numOf 6 (tl d) = none) && decide (d ≠ "none")) = true then none else if zs.length > 8 then none else if (decide zs.Nodup && zs.all isName) = true then some ⟨k, numOf 6 (tl d), zs⟩ else none := by
  match zs, h with
  | _ :: _, _ => rfl
theorem numW_back {d : Option Int} {k : Nat} (hk : 0 < k) (h : ∀ i, d = some i → 0 ≤ i ∧ i.toNat < 10 ^ k) (hk2 : numOf k (tl ("none" : Str)) = none) : numOf k (tl (numW d)) = d := by
  cases d with
  | none => exact hk2
  | some i => exact num_back (h i rfl).1 hk (h i rfl).2
theorem readVw_back {v : Vw} (h : v.Good) : readVw (vwW v) = some v := by
  unfold vwW
  rw [readVw_eq h.l1, show numOf 6 (tl (toString v.n : Str)) = some v.n from num_back (k := 6) h.n0 (by decide) (by have := h.n1; show _ < 1000000; omega)]
  dsimp only [Option.bind_some]
  have hd : numOf 6 (tl (numW v.d)) = v.d := numW_back (k := 6) (by decide) (fun i hi => ⟨(h.d i hi).1, by have := (h.d i hi).2; have := (h.d i hi).1; show _ < 1000000; omega⟩) (by decide +kernel)
  rw [hd]
  have h1 : (decide (v.d = none) && decide (numW v.d ≠ "none")) = false := by
    cases v.d with
    | none => rfl
    | some i => rfl
  rw [h1, if_neg Bool.false_ne_true, if_neg (by have := h.l8; omega), if_pos]
  rw [decide_eq_true h.nd, Bool.true_and]
  exact List.all_eq_true.mpr h.nm
theorem kind_view : kindOf "view" = some ("view" : Str) := by decide +kernel
theorem kind_keep : kindOf "keep" = some ("keep" : Str) := by decide +kernel
theorem kind_key : kindOf "key" = some ("key" : Str) := by decide +kernel
theorem pa_view {ws : List Str} {z : Str} : readPa "view" ws z = (readVw ws).map .view := by
  unfold readPa
  rw [if_neg (by decide +kernel), if_pos rfl]
theorem pa_keep {ws : List Str} {z : Str} : readPa "keep" ws z = readHd ws := by
  unfold readPa
  rw [if_neg (by decide +kernel), if_neg (by decide +kernel), if_pos rfl]
theorem pa_key {ws : List Str} {z : Str} : readPa "key" ws z = (readKr ws).map .key := by
  unfold readPa
  rw [if_neg (by decide +kernel), if_neg (by decide +kernel), if_neg (by decide +kernel)]
theorem pa_ent {ws : List Str} {z : Str} : readPa "entry" ws z = (readEnt z).bind fun e => if e.ok = true then some (.ent e) else none := by
  unfold readPa
  rw [if_pos rfl]
theorem bd_view {v : Vw} (h : v.Good) : readBd (vwB v) = some (.view v) := by
  have hs : Txt.split (vwB v) " " = ("view" : Str) :: vwW v := split_words (fun z => nomatch z) fun z hz => by
    rcases List.mem_cons.mp hz with rfl | hz
    · decide +kernel
    · exact h.free z hz
  rw [read_kind hs, kind_view]
  dsimp only [Option.bind_some]
  rw [pa_view, readVw_back h]
  rfl
/-! heads -/
theorem readMo_back {mo : Option Int} (h : ∀ i, mo = some i → 0 ≤ i ∧ i ≤ 1000000000) : readMo (numW mo) = mo := by
  unfold readMo
  rw [show numOf 10 (tl (numW mo)) = mo from numW_back (k := 10) (by decide) (fun i hi => ⟨(h i hi).1, by have := (h i hi).2; have := (h i hi).1; show _ < 10000000000; omega⟩) (by decide +kernel)]
  cases mo with
  | none => rfl
  | some i =>
    dsimp only [Option.bind_some]
    rw [if_neg (by have := (h i rfl).2; omega)]
def wordsO : Option Vw → List Str
  | none => []
  | some v => vwW v
theorem hdW_eq {m e : Int} {mo : Option Int} {v : Option Vw} : hdW m e mo v = ("keep" : Str) :: (toString m : Str) :: (toString e : Str) :: numW mo :: wordsO v := by
  cases v <;> rfl
theorem bd_keep {m e : Int} {mo : Option Int} {v : Option Vw} (hm0 : 0 ≤ m) (hm1 : m < 1000000) (he0 : 0 ≤ e) (he1 : e < 1000000) (hmo : ∀ i, mo = some i → 0 ≤ i ∧ i ≤ 1000000000) (hv : ∀ u, v = some u → u.Good) : readBd (hdB m e mo v) = some (.keep m e mo v) := by
  have hs : Txt.split (hdB m e mo v) " " = ("keep" : Str) :: (toString m : Str) :: (toString e : Str) :: numW mo :: wordsO v := by
    unfold hdB
    rw [hdW_eq]
    refine split_words (fun z => nomatch z) fun z hz => ?_
    rcases List.mem_cons.mp hz with rfl | hz
    · decide +kernel
    rcases List.mem_cons.mp hz with rfl | hz
    · exact noSp_num hm0
    rcases List.mem_cons.mp hz with rfl | hz
    · exact noSp_num he0
    rcases List.mem_cons.mp hz with rfl | hz
    · exact noSp_numW fun i hi => (hmo i hi).1
    cases v with
    | none => cases hz
    | some u => exact (hv u rfl).free z hz
  rw [read_kind hs, kind_keep]
  dsimp only [Option.bind_some]
  rw [pa_keep]
  have hrd : readHd ((toString m : Str) :: (toString e : Str) :: numW mo :: wordsO v) = (numOf 6 (tl (toString m : Str))).bind fun m => (numOf 6 (tl (toString e : Str))).bind fun e => if (decide (readMo (numW mo) = none) && decide (numW mo ≠ "none")) = true then none else if (wordsO v).length = 0 then some (.keep m e (readMo (numW mo)) none) else (readVw (wordsO v)).bind fun v => some (.keep m e (readMo (numW mo)) (some v)) := rfl
  rw [hrd, readMo_back hmo, show numOf 6 (tl (toString m : Str)) = some m from num_back (k := 6) hm0 (by decide) (by show _ < 1000000; omega), show numOf 6 (tl (toString e : Str)) = some e from num_back (k := 6) he0 (by decide) (by show _ < 1000000; omega)]
  dsimp only [Option.bind_some]
  have h1 : (decide (mo = none) && decide (numW mo ≠ "none")) = false := by
    cases mo with
    | none => rfl
    | some i => rfl
  rw [h1, if_neg Bool.false_ne_true]
  cases v with
  | none => rfl
  | some u =>
    rw [if_neg (by show ¬ (vwW u).length = 0; unfold vwW; rw [List.length_cons]; omega), show wordsO (some u) = vwW u from rfl, readVw_back (hv u rfl)]
    rfl
/-! rows -/
structure KRow.Good (r : KRow) : Prop where
  k : isKey r.k = true
  g : isName r.g = true
  c0 : 1 ≤ r.c
  c1 : r.c ≤ 1000
  m0 : 0 ≤ r.m
  m1 : r.m ≤ 1000000000
  w : (r.lk = [] ∧ r.e = some r.m) ∨ (r.lk ≠ [] ∧ r.lk.length ≤ 8 ∧ ascB r.lk = true ∧ (∀ z ∈ r.lk, isName z = true) ∧ r.b = false ∧ ∀ i, r.e = some i → r.m < i ∧ i < 1000000000000)
theorem KRow.Good.names {r : KRow} (h : r.Good) : ∀ z ∈ r.lk, isName z = true := fun z hz => by
  rcases h.w with ⟨h1, _⟩ | ⟨_, _, _, h1, _⟩
  · rw [h1] at hz; cases hz
  · exact h1 z hz
theorem KRow.Good.early {r : KRow} (h : r.Good) : ∀ i, r.e = some i → 0 ≤ i ∧ i < 1000000000000 := fun i hi => by
  have h0 := h.m0
  have h1 := h.m1
  rcases h.w with ⟨_, h2⟩ | ⟨_, _, _, _, _, h2⟩
  · rw [h2] at hi
    cases hi
    omega
  · have := h2 i hi
    omega
theorem KRow.Good.ok {r : KRow} (h : r.Good) : r.Ok := by
  have h1 := h.c0
  have h2 := h.c1
  have h3 := h.m0
  have h4 := h.m1
  refine ⟨by have := key_len h.k; omega, by have := name_len h.g; omega, ⟨by omega, by omega⟩, ⟨by omega, by omega⟩, ?_, fun z hz => by have := name_len (h.names z hz); omega, fun i hi => ⟨(h.early i hi).1, by have := (h.early i hi).2; omega⟩⟩
  rcases h.w with ⟨h5, _⟩ | ⟨_, h5, _⟩
  · rw [h5]; exact Nat.zero_le _
  · omega
theorem wdOf_free {r : KRow} : noSp (wdOf r) := by
  unfold wdOf
  split
  · decide +kernel
  · split <;> decide +kernel
theorem KRow.Good.free {r : KRow} (h : r.Good) : ∀ z ∈ krW r, noSp z := fun z hz => by
  unfold krW at hz
  rcases List.mem_append.mp hz with hz | hz
  · simp only [List.mem_cons, List.not_mem_nil, or_false] at hz
    rcases hz with rfl | rfl | rfl | rfl | rfl | rfl
    · decide +kernel
    · exact noSp_key h.k
    · exact noSp_name h.g
    · exact noSp_num (by have := h.c0; omega)
    · exact noSp_num h.m0
    · exact wdOf_free
  · split at hz
    · simp only [List.mem_cons, List.not_mem_nil, or_false] at hz
      rcases hz with rfl | rfl
      · exact noSp_soonW fun i hi => (h.early i hi).1
      · exact noSp_join h.names
    · cases hz
theorem readKr_eq {k g c m x : Str} {r : List Str} : readKr (k :: g :: c :: m :: x :: r) = if (isKey k && isName g) = true then (readMo m).bind fun mo => (numOf 4 (tl c)).bind fun co =>
        if 1 ≤ co ∧ co ≤ 1000 then
          (if r.length = 0 ∧ (x = "let" ∨ x = "back") then some ⟨k, g, co, mo, [], some mo, decide (x = "back")⟩
           else match r with
            | [e, ns] => if x = "refused" then (readRef e ns mo).bind fun p => some ⟨k, g, co, mo, p.1, p.2, false⟩ else none
            | _ => none)
        else none
      else none := rfl
theorem soonW_back {e : Option Int} (h : ∀ i, e = some i → 0 ≤ i ∧ i < 1000000000000) : numOf 12 (tl (soonW e)) = e := by
  cases e with
  | none => decide +kernel
  | some i => exact num_back (k := 12) (h i rfl).1 (by decide) (by have := (h i rfl).2; have := (h i rfl).1; show _ < 1000000000000; omega)
theorem bd_key {r : KRow} (h : r.Good) : readBd (krB r) = some (.key r) := by
  have hs : Txt.split (krB r) " " = krW r := split_words (by unfold krW; exact fun z => nomatch z) h.free
  have hw : krW r = ("key" : Str) :: r.k :: r.g :: (toString r.c : Str) :: (toString r.m : Str) :: wdOf r :: (if r.lk.length > 0 then [soonW r.e, Txt.join "," r.lk] else []) := rfl
  rw [hw] at hs
  rw [read_kind hs, kind_key]
  dsimp only [Option.bind_some]
  rw [pa_key]
  have hm : readMo (toString r.m : Str) = some r.m := readMo_back (mo := some r.m) fun i hi => by
    cases hi
    exact ⟨h.m0, h.m1⟩
  rw [readKr_eq, h.k, h.g, Bool.and_self, if_pos rfl, hm, show numOf 4 (tl (toString r.c : Str)) = some r.c from num_back (k := 4) (by have := h.c0; omega) (by decide) (by have := h.c1; have := h.c0; show _ < 10000; omega)]
  dsimp only [Option.bind_some]
  rw [if_pos ⟨h.c0, h.c1⟩]
  obtain ⟨k, g, c, m, lk, e, b⟩ := r
  rcases h.w with ⟨h1, h2⟩ | ⟨h1, h2, h3, h4, h5, h6⟩
  · dsimp only at h1 h2
    subst h1 h2
    have hz : ¬ (⟨k, g, c, m, [], some m, b⟩ : KRow).lk.length > 0 := fun z => Nat.lt_irrefl 0 z
    rw [if_neg hz]
    cases b with
    | true =>
      have hx : wdOf ⟨k, g, c, m, [], some m, true⟩ = "back" := rfl
      rw [hx, if_pos ⟨rfl, .inr rfl⟩]
      rfl
    | false =>
      have hx : wdOf ⟨k, g, c, m, [], some m, false⟩ = "let" := rfl
      rw [hx, if_pos ⟨rfl, .inl rfl⟩, decide_eq_false (by decide +kernel)]
      rfl
  · have he := h.early
    dsimp only at h1 h2 h3 h4 h5 h6 he
    have hl : lk.length > 0 := List.length_pos_iff.mpr h1
    have hx : wdOf ⟨k, g, c, m, lk, e, b⟩ = "refused" := by
      unfold wdOf
      rw [if_pos hl]
    rw [if_pos hl, hx, if_neg (fun z => by have := z.1; simp at this)]
    dsimp only
    rw [if_pos rfl]
    unfold readRef
    rw [soonW_back he, split_names h1 fun z hz => name_44 (h4 z hz)]
    have h7 : (decide (e = none) && decide (soonW e ≠ "never")) = false := by
      cases e with
      | none => rfl
      | some i => rfl
    rw [h7, if_neg Bool.false_ne_true, if_neg (by
      rintro ⟨i, hi, hle⟩
      have := (h6 i hi).1
      omega), if_neg (by omega), if_pos (by rw [h3, Bool.true_and]; exact List.all_eq_true.mpr h4)]
    dsimp only [Option.bind_some]
    rw [h5]
    rfl
/-! entries -/
theorem bd_ent {e : Ent} (h : e.ok = true) : readBd e.line = some (.ent e) := by
  have hs := split_line h
  have key : ∀ (w : Str) (ws : List Str), Txt.split e.line " " = w :: ws → (w = "ask" ∨ w = "release") → readBd e.line = some (.ent e) := fun w ws h1 h2 => by
    rw [read_kind h1]
    unfold kindOf
    rw [if_pos h2]
    dsimp only [Option.bind_some]
    rw [pa_ent, read_back h]
    dsimp only [Option.bind_some]
    rw [if_pos h]
  cases e with
  | ask k g c m => exact key "ask" _ hs (.inl rfl)
  | rel k m => exact key "release" _ hs (.inr rfl)
/-! bodies that are nearly right -/
def wrongL : List Str := [("" : Str), ("view" : Str), ("view 1 none" : Str), ("view 1 a" : Str), ("view  1 none a" : Str), ("view 1 none a " : Str), ("view 01 none a" : Str), ("view 1 00 a" : Str),
  ("view 1000000 none a" : Str), ("view 1 1000000 a" : Str), ("view 1 none a b a" : Str), ("view 1 none A" : Str), ("view 1 - a" : Str),
  ("view 1 none a b c d e f g h i" : Str), ("View 1 none a" : Str), ("keep" : Str), ("keep 1 2" : Str), ("keep 1 2 never" : Str),
  ("keep 1 2 1000000001" : Str), ("keep 01 2 3" : Str), ("keep 1 2 3 4" : Str), ("keep 1 2 3 4 none" : Str), ("keep 1 2 3 4 none a a" : Str),
  ("keep 1000000 2 3" : Str), ("keep 0 0 none none" : Str), ("key a g 1 2" : Str), ("key a g 1 2 Let" : Str), ("key a g 0 2 let" : Str),
  ("key a g 1001 2 let" : Str), ("key a g 1 1000000001 let" : Str), ("key a_ g 1 2 let" : Str), ("key a g- 1 2 let" : Str),
  ("key a g 1 2 let 3 d" : Str), ("key a g 1 2 refused" : Str), ("key a g 1 2 refused 3" : Str), ("key a g 1 2 refused 2 d" : Str),
  ("key a g 1 2 refused 3 d,c" : Str), ("key a g 1 2 refused 3 c,c" : Str), ("key a g 1 2 refused 3 ,c" : Str),
  ("key a g 1 2 refused 03 c" : Str), ("key a g 1 2 refused none c" : Str), ("key a g 1 2 refused 3 a,b,c,d,e,f,g,h,i" : Str),
  ("key a g 1 2 refused 1000000000000 c" : Str), ("ask a g 1" : Str), ("ask a g 0 4" : Str), ("ask a g 1 4 5" : Str), ("release a" : Str),
  ("key a g 01 2 let" : Str), ("key a g 1 02 let" : Str), ("keep 1 02 3" : Str), ("keep 1 2 03" : Str), ("keep 1 2 3 04 none a" : Str),
  ("keep 1 2 3 4 05 a" : Str), ("view 1 none a,b" : Str), ("key a g 1 2 refused 3 c d" : Str), ("ask a g 01 4" : Str), ("ask a g 1 04" : Str),
  ("release a 01" : Str), ("release A 1" : Str), ("ask a G 1 4" : Str), ("let a 1" : Str), (" ask a g 1 4" : Str), ("ask a g 1 1000000001" : Str), ("keep 0 0 none " : Str)]
theorem wrong_none : wrongL.all (fun z => (readBd z).isNone) = true := by kernel_rfl
/-! spoilt bodies -/
theorem tl_app (x y : Str) : tl (x ++ y) = tl x ++ tl y := cps_toList_append x y
theorem join_snoc {y : Str} {zs : List Str} {x : Str} (h : zs ≠ []) : Txt.join y (zs ++ [x]) = Txt.join y zs ++ y ++ x := ext_tl (by
  rw [tl_app, tl_app, join_eq, join_eq, tl_join, tl_join, List.map_append, List.map_cons, List.map_nil, joinL_snoc _ _ _ (by intro y; exact h (List.map_eq_nil_iff.mp y))])
theorem join_consS {x y : Str} {zs : List Str} : Txt.join " " (x :: y :: zs) = x ++ " " ++ Txt.join " " (y :: zs) := ext_tl (by
  rw [tl_app, tl_app, join_eq, join_eq, tl_join, tl_join]
  exact joinL_cons _ _ _ _)
theorem readVw_bad {n d : Str} {zs : List Str} {z : Str} (hz : z ∈ zs) (hb : isName z = false) : readVw (n :: d :: zs) = none := by
  rw [readVw_eq (by cases zs with
    | nil => cases hz
    | cons a r => simp)]
  have h1 : zs.all isName = false := by
    rw [List.all_eq_false]
    exact ⟨z, hz, by rw [hb]; exact Bool.false_ne_true⟩
  cases numOf 6 (tl n) with
  | none => rfl
  | some k =>
    dsimp only [Option.bind_some]
    split
    · rfl
    · split
      · rfl
      · rw [h1, Bool.and_false, if_neg Bool.false_ne_true]
theorem readKr_len {k g c m x : Str} {r : List Str} (h0 : r.length ≠ 0) (h2 : r.length ≠ 2) : readKr (k :: g :: c :: m :: x :: r) = none := by
  rw [readKr_eq]
  split
  · cases readMo m with
    | none => rfl
    | some mo =>
      dsimp only [Option.bind_some]
      cases numOf 4 (tl c) with
      | none => rfl
      | some co =>
        dsimp only [Option.bind_some]
        split
        · rw [if_neg (fun z => h0 z.1)]
          split
          · exact absurd rfl h2
          · rfl
        · rfl
  · rfl
theorem readKr_key {k : Str} {ws : List Str} (h : isKey k = false) : readKr (k :: ws) = none := by
  match ws with
  | [] => rfl
  | [_] => rfl
  | [_, _] => rfl
  | [_, _, _] => rfl
  | g :: c :: m :: x :: r =>
    rw [readKr_eq, h, Bool.false_and, if_neg Bool.false_ne_true]
theorem not_name10 {z : Str} : isName (z ++ (⟨#[10]⟩ : Str)) = false := by
  cases h : isName (z ++ (⟨#[10]⟩ : Str)) with
  | false => rfl
  | true =>
    unfold isName at h
    have h2 := List.all_eq_true.mp (Bool.and_eq_true_iff.mp h).2 10 (by
      rw [tl_app]
      exact List.mem_append.mpr (.inr (by decide +kernel)))
    revert h2
    decide +kernel
/-- the words of a body, and a word more, or another last one -/
structure NearBad (z : Str) : Prop where
  a : readBd (z ++ " ") = none
  b : readBd (" " ++ z) = none
  c : ∃ a b : List Nat, 32 ∉ a ∧ tl z = a ++ 32 :: b ∧ readBd (stxt (a ++ 32 :: 32 :: b)) = none
  d : readBd (z ++ " x-") = none
  e : readBd (z ++ (⟨#[10]⟩ : Str)) = none
theorem near_of {w0 k : Str} {ws : List Str} {kd : Str} (hkd : kindOf w0 = some kd) (h0 : noSp w0) (hk : noSp k) (hw : ∀ z ∈ ws, noSp z)
    (h1 : ∀ x : Str, noSp x → isName x = false → ∀ z, readPa kd (k :: ws ++ [x]) z = none) (h2 : ∀ z, readPa kd ((("" : Str) :: k :: ws)) z = none)
    (h3 : ∀ us x, k :: ws = us ++ [x] → ∀ z, readPa kd (us ++ [x ++ (⟨#[10]⟩ : Str)]) z = none) : NearBad (Txt.join " " (w0 :: k :: ws)) := by
  have hall : ∀ z ∈ w0 :: k :: ws, noSp z := fun z hz => by
    rcases List.mem_cons.mp hz with rfl | hz
    · exact h0
    rcases List.mem_cons.mp hz with rfl | hz
    · exact hk
    exact hw z hz
  have more : ∀ x : Str, noSp x → isName x = false → readBd (Txt.join " " ((w0 :: k :: ws) ++ [x])) = none := fun x hx hn => by
    have hs : Txt.split (Txt.join " " ((w0 :: k :: ws) ++ [x])) " " = w0 :: (k :: ws ++ [x]) := split_words (fun z => nomatch z) fun z hz => by
      rcases List.mem_append.mp hz with hz | hz
      · exact hall z hz
      · rw [List.mem_singleton.mp hz]; exact hx
    rw [read_kind hs, hkd]
    exact h1 x hx hn _
  refine ⟨?_, ?_, ⟨tl w0, tl (Txt.join " " (k :: ws)), h0, ?_, ?_⟩, ?_, ?_⟩
  · have h := more "" (by decide +kernel) (by decide +kernel)
    rw [join_snoc (List.cons_ne_nil _ _), show ∀ z : Str, z ++ ("" : Str) = z from fun z => ext_tl (by rw [tl_app, show tl ("" : Str) = [] by decide +kernel, List.append_nil])] at h
    exact h
  · have hs : Txt.split (Txt.join " " (("" : Str) :: w0 :: k :: ws)) " " = ("" : Str) :: (w0 :: k :: ws) := split_words (fun z => nomatch z) fun z hz => by
      rcases List.mem_cons.mp hz with rfl | hz
      · decide +kernel
      · exact hall z hz
    have h := read_kind hs
    rw [show kindOf ("" : Str) = none by decide +kernel] at h
    rw [join_consS, show ("" : Str) ++ " " = " " by decide +kernel] at h
    exact h
  · rw [join_consS, tl_app, tl_app, show tl (" " : Str) = [32] by decide +kernel, List.append_assoc]
    rfl
  · have hs : Txt.split (Txt.join " " (w0 :: ("" : Str) :: k :: ws)) " " = w0 :: (("" : Str) :: k :: ws) := split_words (fun z => nomatch z) fun z hz => by
      rcases List.mem_cons.mp hz with rfl | hz
      · exact h0
      rcases List.mem_cons.mp hz with rfl | hz
      · decide +kernel
      · exact hall z (List.mem_cons_of_mem _ hz)
    have h := read_kind hs
    rw [hkd] at h
    dsimp only [Option.bind_some] at h
    rw [h2] at h
    have e : stxt (tl w0 ++ 32 :: 32 :: tl (Txt.join " " (k :: ws))) = Txt.join " " (w0 :: ("" : Str) :: k :: ws) := ext_tl (by
      rw [tl_stxt, join_consS, join_consS, tl_app, tl_app, tl_app, tl_app, show tl (" " : Str) = [32] by decide +kernel, show tl ("" : Str) = [] by decide +kernel]
      simp only [List.append_assoc, List.cons_append, List.nil_append, List.singleton_append])
    rw [e]
    exact h
  · have h := more "x-" (by decide +kernel) (by decide +kernel)
    rw [join_snoc (List.cons_ne_nil _ _)] at h
    have e : ∀ z : Str, z ++ " " ++ ("x-" : Str) = z ++ " x-" := fun z => ext_tl (by
      rw [tl_app, tl_app, tl_app, show tl (" x-" : Str) = tl (" " : Str) ++ tl ("x-" : Str) by decide +kernel, List.append_assoc])
    rw [e] at h
    exact h
  · obtain ⟨us, x, hx⟩ : ∃ us x, k :: ws = us ++ [x] := ⟨_, _, (List.dropLast_concat_getLast (List.cons_ne_nil _ _)).symm⟩
    have hmem : ∀ z ∈ us ++ [x], noSp z := fun z hz => hall z (List.mem_cons_of_mem _ (by rw [hx]; exact hz))
    have hs : Txt.split (Txt.join " " (w0 :: (us ++ [x ++ (⟨#[10]⟩ : Str)]))) " " = w0 :: (us ++ [x ++ (⟨#[10]⟩ : Str)]) := split_words (fun z => nomatch z) fun z hz => by
      rcases List.mem_cons.mp hz with rfl | hz
      · exact h0
      rcases List.mem_append.mp hz with hz | hz
      · exact hmem z (List.mem_append.mpr (.inl hz))
      · rw [List.mem_singleton.mp hz]
        show 32 ∉ tl (x ++ (⟨#[10]⟩ : Str))
        rw [tl_app]
        intro y
        rcases List.mem_append.mp y with y | y
        · exact hmem x (List.mem_append.mpr (.inr (List.mem_singleton.mpr rfl))) y
        · revert y
          decide +kernel
    have h := read_kind hs
    rw [hkd] at h
    dsimp only [Option.bind_some] at h
    rw [h3 us x hx] at h
    have e : Txt.join " " (w0 :: (us ++ [x ++ (⟨#[10]⟩ : Str)])) = Txt.join " " (w0 :: k :: ws) ++ (⟨#[10]⟩ : Str) := by
      rw [show w0 :: (us ++ [x ++ (⟨#[10]⟩ : Str)]) = (w0 :: us) ++ [x ++ (⟨#[10]⟩ : Str)] from rfl, hx, show w0 :: (us ++ [x]) = (w0 :: us) ++ [x] from rfl, join_snoc (List.cons_ne_nil _ _), join_snoc (List.cons_ne_nil _ _)]
      exact ext_tl (by simp only [tl_app, List.append_assoc])
    rw [← e]
    exact h
theorem near_view {v : Vw} (h : v.Good) : NearBad (vwB v) := by
  have hw : vwW v = (toString v.n : Str) :: numW v.d :: v.hs := rfl
  unfold vwB
  rw [hw]
  have hf := h.free
  rw [hw] at hf
  refine near_of kind_view (by decide +kernel) (hf _ List.mem_cons_self) (fun z hz => hf z (List.mem_cons_of_mem _ hz)) (fun x _ hn z => ?_) (fun z => ?_) (fun us x hx z => ?_)
  · rw [pa_view, show (toString v.n : Str) :: (numW v.d :: v.hs) ++ [x] = (toString v.n : Str) :: numW v.d :: (v.hs ++ [x]) from rfl, readVw_bad (List.mem_append.mpr (.inr (List.mem_singleton.mpr rfl))) hn]
    rfl
  · rw [pa_view, readVw_eq (by rw [List.length_cons]; omega), show numOf 6 (tl ("" : Str)) = none by decide +kernel]
    rfl
  · have hl := h.l1
    match us, hx with
    | [], hx => exact absurd (congrArg List.length hx) (by simp only [List.length_cons, List.length_append, List.length_nil]; omega)
    | [_], hx => exact absurd (congrArg List.length hx) (by simp only [List.length_cons, List.length_append, List.length_nil]; omega)
    | n :: d :: r, hx =>
      rw [pa_view, show n :: d :: r ++ [x ++ (⟨#[10]⟩ : Str)] = n :: d :: (r ++ [x ++ (⟨#[10]⟩ : Str)]) from rfl, readVw_bad (List.mem_append.mpr (.inr (List.mem_singleton.mpr rfl))) not_name10]
      rfl
theorem readRef_bad {e ns z : Str} {mo : Int} (hz : z ∈ Txt.split ns ",") (hb : isName z = false) : readRef e ns mo = none := by
  unfold readRef
  have h1 : (Txt.split ns ",").all isName = false := by
    rw [List.all_eq_false]
    exact ⟨z, hz, by rw [hb]; exact Bool.false_ne_true⟩
  split
  · rfl
  · split
    · rfl
    · split
      · rfl
      · rw [h1, Bool.and_false, if_neg Bool.false_ne_true]
theorem readKr_two {k g c m x e ns : Str} (h : ∀ mo, readRef e ns mo = none) : readKr [k, g, c, m, x, e, ns] = none := by
  rw [readKr_eq]
  split
  · cases readMo m with
    | none => rfl
    | some mo =>
      dsimp only [Option.bind_some]
      cases numOf 4 (tl c) with
      | none => rfl
      | some co =>
        dsimp only [Option.bind_some]
        split
        · rw [if_neg (fun z => by have := z.1; simp at this)]
          split
          · rw [h]
            rfl
          · rfl
        · rfl
  · rfl
theorem readKr_one {k g c m x : Str} (h : ¬ (x = "let" ∨ x = "back")) : readKr [k, g, c, m, x] = none := by
  rw [readKr_eq]
  split
  · cases readMo m with
    | none => rfl
    | some mo =>
      dsimp only [Option.bind_some]
      cases numOf 4 (tl c) with
      | none => rfl
      | some co =>
        dsimp only [Option.bind_some]
        split
        · rw [if_neg (fun z => h z.2)]
        · rfl
  · rfl
theorem ends10 {x y : Str} (h : x ++ (⟨#[10]⟩ : Str) = y) : 10 ∈ tl y := by
  rw [← h, tl_app]
  exact List.mem_append.mpr (.inr (by decide +kernel))
theorem names_bad {lk : List Str} (hn : lk ≠ []) (h : ∀ z ∈ lk, isName z = true) : ∃ z ∈ Txt.split (Txt.join "," lk ++ (⟨#[10]⟩ : Str)) ",", isName z = false := by
  obtain ⟨us, x, hx⟩ : ∃ us x, lk = us ++ [x] := ⟨_, _, (List.dropLast_concat_getLast hn).symm⟩
  have h44 : ∀ z ∈ us ++ [x ++ (⟨#[10]⟩ : Str)], 44 ∉ tl z := fun z hz => by
    rcases List.mem_append.mp hz with hz | hz
    · exact name_44 (h z (by rw [hx]; exact List.mem_append.mpr (.inl hz)))
    · rw [List.mem_singleton.mp hz, tl_app]
      intro y
      rcases List.mem_append.mp y with y | y
      · exact name_44 (h x (by rw [hx]; exact List.mem_append.mpr (.inr (List.mem_singleton.mpr rfl)))) y
      · revert y
        decide +kernel
  have e : Txt.join "," (us ++ [x ++ (⟨#[10]⟩ : Str)]) = Txt.join "," lk ++ (⟨#[10]⟩ : Str) := by
    rw [hx]
    by_cases hu : us = []
    · rw [hu]
      exact ext_tl (by rw [tl_app, join_eq, join_eq, tl_join, tl_join]; exact tl_app x _)
    · rw [join_snoc hu, join_snoc hu]
      exact ext_tl (by simp only [tl_app, List.append_assoc])
  rw [← e, split_names (by intro y; simp at y) h44]
  exact ⟨_, List.mem_append.mpr (.inr (List.mem_singleton.mpr rfl)), not_name10⟩
theorem near_key {r : KRow} (h : r.Good) : NearBad (krB r) := by
  have hw : krW r = ("key" : Str) :: r.k :: (r.g :: (toString r.c : Str) :: (toString r.m : Str) :: wdOf r :: (if r.lk.length > 0 then [soonW r.e, Txt.join "," r.lk] else [])) := rfl
  have hf := h.free
  unfold krB
  rw [hw] at hf ⊢
  have hrl : (if r.lk.length > 0 then [soonW r.e, Txt.join "," r.lk] else []).length = 0 ∨ (if r.lk.length > 0 then [soonW r.e, Txt.join "," r.lk] else []).length = 2 := by
    split
    · exact .inr rfl
    · exact .inl rfl
  refine near_of kind_key (by decide +kernel) (hf _ (List.mem_cons_of_mem _ List.mem_cons_self)) (fun z hz => hf z (List.mem_cons_of_mem _ (List.mem_cons_of_mem _ hz))) (fun x _ hn z => ?_) (fun z => ?_) (fun us x hx z => ?_)
  · rw [pa_key]
    generalize (if r.lk.length > 0 then [soonW r.e, Txt.join "," r.lk] else []) = rest at hrl ⊢
    rw [show r.k :: (r.g :: (toString r.c : Str) :: (toString r.m : Str) :: wdOf r :: rest) ++ [x] = r.k :: r.g :: (toString r.c : Str) :: (toString r.m : Str) :: wdOf r :: (rest ++ [x]) from rfl, readKr_len (by rw [List.length_append, List.length_singleton]; omega) (by rw [List.length_append, List.length_singleton]; omega)]
    rfl
  · rw [pa_key, readKr_key (by decide +kernel)]
    rfl
  · rw [pa_key]
    rcases h.w with ⟨h1, _⟩ | ⟨h1, _, _, h4, _⟩
    · have hz : ¬ r.lk.length > 0 := by rw [h1]; exact Nat.lt_irrefl 0
      rw [if_neg hz] at hx
      obtain ⟨e1, e2⟩ := List.append_inj' (show [r.k, r.g, (toString r.c : Str), (toString r.m : Str)] ++ [wdOf r] = us ++ [x] from hx) rfl
      subst e1
      rw [show [r.k, r.g, (toString r.c : Str), (toString r.m : Str)] ++ [x ++ (⟨#[10]⟩ : Str)] = [r.k, r.g, (toString r.c : Str), (toString r.m : Str), x ++ (⟨#[10]⟩ : Str)] from rfl, readKr_one (by
        rintro (y | y)
        · have := ends10 y
          revert this
          decide +kernel
        · have := ends10 y
          revert this
          decide +kernel)]
      rfl
    · have hl : r.lk.length > 0 := List.length_pos_iff.mpr h1
      rw [if_pos hl] at hx
      obtain ⟨e1, e2⟩ := List.append_inj' (show [r.k, r.g, (toString r.c : Str), (toString r.m : Str), wdOf r, soonW r.e] ++ [Txt.join "," r.lk] = us ++ [x] from hx) rfl
      subst e1
      have e3 : x = Txt.join "," r.lk := (List.singleton_inj.mp e2).symm
      subst e3
      obtain ⟨y, hy, hyb⟩ := names_bad h1 h4
      rw [show [r.k, r.g, (toString r.c : Str), (toString r.m : Str), wdOf r, soonW r.e] ++ [Txt.join "," r.lk ++ (⟨#[10]⟩ : Str)] = [r.k, r.g, (toString r.c : Str), (toString r.m : Str), wdOf r, soonW r.e, Txt.join "," r.lk ++ (⟨#[10]⟩ : Str)] from rfl, readKr_two fun mo => readRef_bad hy hyb]
      rfl
/-! ### bodies as data: they may be shown -/
structure GD (W D : Nat) (d : PyData) : Prop where
  s : d.showable = true
  c : d.canLay0 = true
  p : d.depth ≤ D
  w : d.weight ≤ W
  i : d.intsShort 13 = true
structure GDs (W D : Nat) (ds : List PyData) : Prop where
  s : PyData.showableAll ds = true
  c : PyData.canLayAll0 ds = true
  p : PyData.depthAll ds ≤ D
  w : PyData.weightAll ds ≤ W
  i : PyData.intsShortAll 13 ds = true
theorem GDs.nil {D : Nat} : GDs 0 D [] := ⟨rfl, rfl, Nat.zero_le _, Nat.le_refl _, rfl⟩
theorem GDs.cons {W W2 D : Nat} {d : PyData} {ds : List PyData} (h : GD W D d) (t : GDs W2 D ds) : GDs (W + 1 + W2) D (d :: ds) :=
  ⟨by simp only [PyData.showableAll, h.s, t.s, Bool.and_self], by simp only [PyData.canLayAll0, h.c, t.c, Bool.and_self], by simp only [PyData.depthAll]; have := h.p; have := t.p; omega,
    by simp only [PyData.weightAll]; have := h.w; have := t.w; omega, by simp only [PyData.intsShortAll, h.i, t.i, Bool.and_self]⟩
theorem GD.tuple {W D : Nat} {ds : List PyData} (h : GDs W D ds) : GD W (D + 1) (.tuple ds) :=
  ⟨by simp only [PyData.showable, h.s], by simp only [PyData.canLay0, h.c], by simp only [PyData.depth]; have := h.p; omega, by simp only [PyData.weight]; exact h.w, by simp only [PyData.intsShort, h.i]⟩
theorem GD.mono {W W2 D D2 : Nat} {d : PyData} (h : GD W D d) (hW : W ≤ W2) (hD : D ≤ D2) : GD W2 D2 d := ⟨h.s, h.c, Nat.le_trans h.p hD, Nat.le_trans h.w hW, h.i⟩
theorem GD.none {D : Nat} : GD 0 D .none := ⟨rfl, rfl, Nat.zero_le _, Nat.le_refl _, by decide +kernel⟩
theorem GD.bool {D : Nat} {b : Bool} : GD 0 D (.bool b) := ⟨rfl, rfl, Nat.zero_le _, Nat.le_refl _, by cases b <;> decide +kernel⟩
theorem log_sm44 {n : Int} (h : small n) : n.natAbs.log2 < 44 := by
  have h0 := h.1
  have h1 := h.2
  by_cases hz : n.natAbs = 0
  · rw [hz]
    decide
  · exact (Nat.log2_lt hz).mpr (show n.natAbs < 17592186044416 by omega)
theorem GD.int {D : Nat} {n : Int} (h : small n) : GD 44 D (.int n) := by
  have hl := log_sm44 h
  refine ⟨?_, rfl, Nat.zero_le _, ?_, ?_⟩
  · simp only [PyData.showable, decide_eq_true_eq]
    omega
  · simp only [PyData.weight]
    split <;> omega
  · simp only [PyData.intsShort, PyData.shown]
    exact decide_eq_true (small_len h)
theorem GD.str {D B : Nat} {z : Str} (h : PyData.strOk z = true) (hl : z.length ≤ B) : GD B D (.str z) :=
  ⟨rfl, by simp only [PyData.canLay0]; exact h, Nat.zero_le _, by simp only [PyData.weight]; exact hl, by simp only [PyData.intsShort]⟩
theorem GDs.names {D : Nat} : ∀ {zs : List Str}, (∀ z ∈ zs, isName z = true) → GDs (13 * zs.length) D (zs.map PyData.str)
  | [], _ => GDs.nil
  | z :: zs, h => by
    have h1 := GDs.cons (GD.str (D := D) (isName_ok (h z List.mem_cons_self)) (name_len (h z List.mem_cons_self))) (GDs.names fun y hy => h y (List.mem_cons_of_mem _ hy))
    exact ⟨h1.s, h1.c, h1.p, by have := h1.w; rw [List.length_cons]; rw [List.map_cons]; omega, h1.i⟩
theorem GD.facts {W D : Nat} {d : PyData} (h : GD W D d) (hW : W ≤ 1048576) (hD : D ≤ 60) : d.showable = true ∧ d.hasDict = false ∧ d.depth ≤ 60 ∧ d.shown.length ≤ sizeLine := by
  have h1 := h.p
  have h2 := h.w
  refine ⟨h.s, PyData.hasDict_of_canLay _ h.c, by omega, Nat.le_trans (shown_le13 ?_ h.i) (by decide)⟩
  show (d.canLay0 && decide (d.depth ≤ 64) && decide (d.weight ≤ 2 ^ 20)) = true
  rw [h.c, decide_eq_true (show d.depth ≤ 64 by omega), decide_eq_true (show d.weight ≤ 2 ^ 20 from Nat.le_trans h2 hW)]
  rfl
def nD : Option Int → PyData
  | none => .none
  | some i => .int i
theorem GD.nD {D : Nat} {e : Option Int} (h : ∀ i, e = some i → small i) : GD 44 D (nD e) := by
  cases e with
  | none => exact GD.none.mono (Nat.zero_le _) (Nat.le_refl _)
  | some i => exact GD.int (h i rfl)
def vwD (v : Vw) : PyData := .tuple [.int v.n, nD v.d, .tuple (v.hs.map PyData.str)]
def ovD : Option Vw → PyData
  | none => .none
  | some v => vwD v
def paD : Bdy → PyData
  | .view v => vwD v
  | .keep m e mo v => .tuple [.int m, .int e, nD mo, ovD v]
  | .key r => .tuple [.str r.k, .str r.g, .int r.c, .int r.m, .tuple (r.lk.map PyData.str), nD r.e, .bool r.b]
  | .ent e => e.data
def bdD (b : Bdy) : PyData := .tuple [.str b.word, paD b]
/-- a body that is good -/
def GoodB : Bdy → Prop
  | .view v => v.Good
  | .keep m e mo v => 0 ≤ m ∧ m < 1000000 ∧ 0 ≤ e ∧ e < 1000000 ∧ (∀ i, mo = some i → 0 ≤ i ∧ i ≤ 1000000000) ∧ ∀ u, v = some u → u.Good
  | .key r => r.Good
  | .ent e => e.ok = true
theorem vwD_gd {v : Vw} (h : v.Good) : GD 400 2 (vwD v) := by
  have hl := h.l8
  refine (GD.tuple (GDs.cons (GD.int ⟨h.n0, by have := h.n1; omega⟩) (GDs.cons (GD.nD fun i hi => ⟨(h.d i hi).1, by have := (h.d i hi).2; omega⟩) (GDs.cons (GD.tuple (GDs.names h.nm)) GDs.nil)))).mono ?_ (Nat.le_refl _)
  omega
theorem ovD_gd {v : Option Vw} (h : ∀ u, v = some u → u.Good) : GD 400 2 (ovD v) := by
  cases v with
  | none => exact GD.none.mono (Nat.zero_le _) (Nat.le_refl _)
  | some u => exact vwD_gd (h u rfl)
theorem ent_gd {e : Ent} (h : e.ok = true) : GD 400 2 e.data := by
  cases e with
  | ask k g c m =>
    simp only [Ent.ok, Bool.and_eq_true, decide_eq_true_eq] at h
    obtain ⟨hk, hg, ⟨hc0, hc1⟩, hm0, hm1⟩ := h
    exact (GD.tuple (D := 1) (GDs.cons (GD.str (B := 10) (by decide +kernel) (by decide +kernel)) (GDs.cons (GD.str (part_ok (isKey_part hk)) (key_len hk)) (GDs.cons (GD.str (isName_ok hg) (name_len hg)) (GDs.cons (GD.int ⟨by omega, by omega⟩) (GDs.cons (GD.int ⟨hm0, by omega⟩) GDs.nil)))))).mono (by decide) (Nat.le_refl _)
  | rel k m =>
    simp only [Ent.ok, Bool.and_eq_true, decide_eq_true_eq] at h
    obtain ⟨hk, hm0, hm1⟩ := h
    exact (GD.tuple (D := 1) (GDs.cons (GD.str (B := 10) (by decide +kernel) (by decide +kernel)) (GDs.cons (GD.str (part_ok (isKey_part hk)) (key_len hk)) (GDs.cons (GD.int ⟨hm0, by omega⟩) GDs.nil)))).mono (by decide) (Nat.le_refl _)
theorem paD_gd {b : Bdy} (h : GoodB b) : GD 600 3 (paD b) := by
  cases b with
  | view v => exact (vwD_gd h).mono (by decide) (by decide)
  | keep m e mo v =>
    obtain ⟨h1, h2, h3, h4, h5, h6⟩ := h
    exact (GD.tuple (GDs.cons (GD.int ⟨h1, by omega⟩) (GDs.cons (GD.int ⟨h3, by omega⟩) (GDs.cons (GD.nD fun i hi => ⟨(h5 i hi).1, by have := (h5 i hi).2; omega⟩) (GDs.cons (ovD_gd h6) GDs.nil))))).mono (by decide) (Nat.le_refl _)
  | key r =>
    have h1 := KRow.Good.c0 h
    have h2 := KRow.Good.c1 h
    have h3 := KRow.Good.m0 h
    have h4 := KRow.Good.m1 h
    have hl : r.lk.length ≤ 8 := by
      rcases KRow.Good.w h with ⟨h5, _⟩ | ⟨_, h5, _⟩
      · rw [h5]; exact Nat.zero_le _
      · exact h5
    refine (GD.tuple (D := 2) (GDs.cons (GD.str (part_ok (isKey_part (KRow.Good.k h))) (key_len (KRow.Good.k h))) (GDs.cons (GD.str (isName_ok (KRow.Good.g h)) (name_len (KRow.Good.g h))) (GDs.cons (GD.int ⟨by omega, by omega⟩) (GDs.cons (GD.int ⟨h3, by omega⟩) (GDs.cons (GD.tuple (D := 1) (GDs.names (KRow.Good.names h))) (GDs.cons (GD.nD fun i hi => ⟨(KRow.Good.early h i hi).1, by have := (KRow.Good.early h i hi).2; omega⟩) (GDs.cons GD.bool GDs.nil)))))))).mono ?_ (Nat.le_refl _)
    omega
  | ent e => exact (ent_gd h).mono (by decide) (by decide)
theorem bdD_facts {b : Bdy} (h : GoodB b) : (bdD b).showable = true ∧ (bdD b).hasDict = false ∧ (bdD b).depth ≤ 60 ∧ (bdD b).shown.length ≤ sizeLine := by
  have hw : PyData.strOk b.word = true ∧ b.word.length ≤ 10 := by
    cases b with
    | view v => exact ⟨show PyData.strOk ("view" : Str) = true by decide +kernel, show ("view" : Str).length ≤ 10 by decide +kernel⟩
    | keep m e mo v => exact ⟨show PyData.strOk ("keep" : Str) = true by decide +kernel, show ("keep" : Str).length ≤ 10 by decide +kernel⟩
    | key r => exact ⟨show PyData.strOk ("key" : Str) = true by decide +kernel, show ("key" : Str).length ≤ 10 by decide +kernel⟩
    | ent e => exact ⟨show PyData.strOk ("entry" : Str) = true by decide +kernel, show ("entry" : Str).length ≤ 10 by decide +kernel⟩
  exact GD.facts (W := 700) (D := 5) ((GD.tuple (D := 3) (GDs.cons (GD.str hw.1 hw.2) (GDs.cons (paD_gd h) GDs.nil))).mono (by decide) (by decide)) (by decide) (by decide)
section
variable {K : PySem.W.Frag} {H : Hp} {p : Addr}
theorem dpA_strs : ∀ {zs : List Str}, DpAll K H (zs.map V.str) (zs.map PyData.str)
  | [] => .nil
  | z :: zs => .cons (.str z) dpA_strs
theorem dp_oN {e : Option Int} : Dp K H (oN e) (nD e) := by
  cases e with
  | none => exact .non
  | some i => exact .int i
theorem dp_vw {v : Vw} (h : VwAt K H p v) : Dp K H (.ref p) (vwD v) := by
  obtain ⟨q, h1, h2⟩ := h
  exact .tup h1 (.cons (.int _) (.cons dp_oN (.cons (.tup h2 dpA_strs) .nil)))
theorem dp_ov {x : V} {v : Option Vw} (h : OVw K H x v) : Dp K H x (ovD v) := by
  cases v with
  | none =>
    rw [show x = .non from h]
    exact .non
  | some v =>
    obtain ⟨q, h1, h2⟩ := h
    rw [h1]
    exact dp_vw h2
theorem dp_pa {b : Bdy} (h : PaAt K H p b) : Dp K H (.ref p) (paD b) := by
  cases b with
  | view v => exact dp_vw h
  | keep m e mo v =>
    obtain ⟨x, h1, h2⟩ := h
    exact .tup h1 (.cons (.int _) (.cons (.int _) (.cons dp_oN (.cons (dp_ov h2) .nil))))
  | key r =>
    obtain ⟨l, h1, h2⟩ := h
    exact .tup h1 (.cons (.str _) (.cons (.str _) (.cons (.int _) (.cons (.int _) (.cons (.tup h2 dpA_strs) (.cons dp_oN (.cons (.bl _) .nil)))))))
  | ent e => exact dp_ent h
theorem dp_bd {b : Bdy} (h : BdAt K H p b) : Dp K H (.ref p) (bdD b) := by
  obtain ⟨q, h1, h2⟩ := h
  exact .tup h1 (.cons (.str _) (.cons (dp_pa h2) .nil))
end
/-! lengths -/
theorem join_lenS {zs : List Str} {B : Nat} (h : ∀ z ∈ zs, z.length ≤ B) : (Txt.join " " zs).length ≤ (B + 1) * zs.length := join_len h
theorem vwW_len2 {v : Vw} (h : v.Good) : (vwW v).length ≤ 10 ∧ ∀ z ∈ vwW v, z.length ≤ 13 := by
  have h1 := h.l8
  refine ⟨by unfold vwW; rw [List.length_cons, List.length_cons]; omega, fun z hz => ?_⟩
  rcases List.mem_cons.mp hz with rfl | hz
  · exact small_len h.ok.n
  rcases List.mem_cons.mp hz with rfl | hz
  · exact numW_len h.ok.d
  have := name_len (h.nm z hz)
  omega
theorem vwB_len {v : Vw} (h : v.Good) : (vwB v).length ≤ 200 := by
  obtain ⟨h1, h2⟩ := vwW_len2 h
  have h3 := join_lenS (zs := ("view" : Str) :: vwW v) (B := 13) fun z hz => by
    rcases List.mem_cons.mp hz with rfl | hz
    · decide +kernel
    · exact h2 z hz
  rw [List.length_cons] at h3
  show (Txt.join " " (("view" : Str) :: vwW v)).length ≤ 200
  omega
theorem hdB_len {m e : Int} {mo : Option Int} {v : Option Vw} (h : GoodB (.keep m e mo v)) : (hdB m e mo v).length ≤ 300 := by
  obtain ⟨h1, h2, h3, h4, h5, h6⟩ := h
  have hw : ∀ z ∈ wordsO v, z.length ≤ 13 := fun z hz => by
    cases v with
    | none => cases hz
    | some u => exact (vwW_len2 (h6 u rfl)).2 z hz
  have hl : (wordsO v).length ≤ 10 := by
    cases v with
    | none => exact Nat.zero_le _
    | some u => exact (vwW_len2 (h6 u rfl)).1
  have h7 := join_lenS (zs := ("keep" : Str) :: (toString m : Str) :: (toString e : Str) :: numW mo :: wordsO v) (B := 13) fun z hz => by
    rcases List.mem_cons.mp hz with rfl | hz
    · decide +kernel
    rcases List.mem_cons.mp hz with rfl | hz
    · exact small_len ⟨h1, by omega⟩
    rcases List.mem_cons.mp hz with rfl | hz
    · exact small_len ⟨h3, by omega⟩
    rcases List.mem_cons.mp hz with rfl | hz
    · exact numW_len fun i hi => ⟨(h5 i hi).1, by have := (h5 i hi).2; omega⟩
    exact hw z hz
  unfold hdB
  rw [hdW_eq]
  simp only [List.length_cons] at h7
  omega
theorem krB_len {r : KRow} (h : r.Good) : (krB r).length ≤ 2000 := by
  have hl : r.lk.length ≤ 8 := by
    rcases h.w with ⟨h5, _⟩ | ⟨_, h5, _⟩
    · rw [h5]; exact Nat.zero_le _
    · exact h5
  have h1 := key_len h.k
  have h2 := name_len h.g
  have h3 := small_len h.ok.c
  have h4 := small_len h.ok.m
  have h5 := soonW_len h.ok.e
  have h6 : (Txt.join "," r.lk).length ≤ 13 * r.lk.length := join_len (b := 12) fun z hz => name_len (h.names z hz)
  have h7 : (wdOf r).length ≤ 20 := by
    unfold wdOf
    split
    · decide +kernel
    · split <;> decide +kernel
  have hk : ("key" : Str).length ≤ 20 := by decide +kernel
  have h8 := join_lenS (zs := krW r) (B := 110) fun z hz => by
    unfold krW at hz
    rcases List.mem_append.mp hz with hz | hz
    · simp only [List.mem_cons, List.not_mem_nil, or_false] at hz
      rcases hz with rfl | rfl | rfl | rfl | rfl | rfl <;> omega
    · split at hz
      · simp only [List.mem_cons, List.not_mem_nil, or_false] at hz
        rcases hz with rfl | rfl <;> omega
      · cases hz
  have h9 : (krW r).length ≤ 8 := by
    unfold krW
    rw [List.length_append]
    split
    · exact Nat.le_refl 8
    · show 6 ≤ 8; omega
  show (Txt.join " " (krW r)).length ≤ 2000
  omega
theorem hdW_fits {m e : Int} {mo : Option Int} {v : Option Vw} (h : GoodB (.keep m e mo v)) : ((hdW m e mo v).map (·.length)).sum + (hdW m e mo v).length * (" " : Str).length ≤ 16777216 := by
  obtain ⟨h1, h2, h3, h4, h5, h6⟩ := h
  have hl : (wordsO v).length ≤ 10 := by
    cases v with
    | none => exact Nat.zero_le _
    | some u => exact (vwW_len2 (h6 u rfl)).1
  rw [hdW_eq]
  refine join_ok (by simp only [List.length_cons]; omega) fun z hz => ?_
  rcases List.mem_cons.mp hz with rfl | hz
  · exact show ("keep" : Str).length ≤ 16000 by decide +kernel
  rcases List.mem_cons.mp hz with rfl | hz
  · have := small_len (i := m) ⟨h1, by omega⟩; omega
  rcases List.mem_cons.mp hz with rfl | hz
  · have := small_len (i := e) ⟨h3, by omega⟩; omega
  rcases List.mem_cons.mp hz with rfl | hz
  · have := numW_len (e := mo) fun i hi => ⟨(h5 i hi).1, by have := (h5 i hi).2; omega⟩; omega
  cases v with
  | none => cases hz
  | some u => have := (vwW_len2 (h6 u rfl)).2 z hz; omega
theorem split_hd {m e : Int} {mo : Option Int} {v : Option Vw} (h : GoodB (.keep m e mo v)) : Txt.split (hdB m e mo v) " " = ("keep" : Str) :: (toString m : Str) :: (toString e : Str) :: numW mo :: wordsO v := by
  obtain ⟨hm0, hm1, he0, he1, hmo, hv⟩ := h
  unfold hdB
  rw [hdW_eq]
  refine split_words (fun z => nomatch z) fun z hz => ?_
  rcases List.mem_cons.mp hz with rfl | hz
  · exact show noSp "keep" by decide +kernel
  rcases List.mem_cons.mp hz with rfl | hz
  · exact noSp_num hm0
  rcases List.mem_cons.mp hz with rfl | hz
  · exact noSp_num he0
  rcases List.mem_cons.mp hz with rfl | hz
  · exact noSp_numW fun i hi => (hmo i hi).1
  cases v with
  | none => cases hz
  | some u => exact (hv u rfl).free z hz
theorem near_len {z : Str} (h : NearBad z) (hl : z.length ≤ 2000) : ∃ a b : List Nat, 32 ∉ a ∧ tl z = a ++ 32 :: b ∧ readBd (stxt (a ++ 32 :: 32 :: b)) = none ∧ (stxt (a ++ 32 :: 32 :: b)).length ≤ 3000 := by
  obtain ⟨a, b, h1, h2, h3⟩ := h.c
  refine ⟨a, b, h1, h2, h3, ?_⟩
  rw [len_tl, h2] at hl
  rw [len_stxt]
  simp only [List.length_append, List.length_cons] at hl ⊢
  omega
theorem wrong_mem {z : Str} (h : z ∈ wrongL) : readBd z = none := by
  have h1 := List.all_eq_true.mp wrong_none z h
  cases e : readBd z with
  | none => rfl
  | some b => rw [e] at h1; cases h1
theorem wrong_len : ∀ z ∈ wrongL, z.length ≤ 2000 := by
  have h : wrongL.all (fun z => decide (z.length ≤ 2000)) = true := by kernel_rfl
  intro z hz
  exact of_decide_eq_true (List.all_eq_true.mp h z hz)
theorem g_reprB {K : PySem.W.Frag} {H : Hp} {Q : VK} {p : Addr} {b : Bdy} {z : Str} (hz : (bdD b).shown = z) (hb : GoodB b) (h : BdAt K H p b) (q : Q (.str z) H) : rReprD K [.ref p] H Q := by
  obtain ⟨f1, f2, f3, f4⟩ := bdD_facts hb
  rw [← hz] at q
  exact g_reprD (dp_bd h) f1 f2 f3 f4 q
open TL NumText
local macro_rules | `(tactic| walk_at "ki") => `(tactic| first
  | exact kit_str_str
  | exact kit_str_int
  | exact kit_str_bool
  | exact kit_str_tuple
  | exact kit_str_list
  | exact kit_str_dict
  | exact kit_int_str
  | exact kit_int_int
  | exact kit_int_bool
  | exact kit_int_tuple
  | exact kit_int_list
  | exact kit_int_dict
  | exact kit_bool_str
  | exact kit_bool_int
  | exact kit_bool_bool
  | exact kit_bool_tuple
  | exact kit_bool_list
  | exact kit_bool_dict
  | exact kit_NoneType_str
  | exact kit_NoneType_int
  | exact kit_NoneType_bool
  | exact kit_NoneType_tuple
  | exact kit_NoneType_list
  | exact kit_NoneType_dict
  | exact kit_tuple_str
  | exact kit_tuple_int
  | exact kit_tuple_bool
  | exact kit_tuple_tuple
  | exact kit_tuple_list
  | exact kit_tuple_dict
  | exact kit_list_str
  | exact kit_list_int
  | exact kit_list_bool
  | exact kit_list_tuple
  | exact kit_list_list
  | exact kit_list_dict)
local macro_rules | `(tactic| walk_at "ex") => `(tactic| first
  | assumption
  | exact Evl.Ex.refl _
  | exact Evl.Ex.new (by assumption)
  | (refine Evl.Ex.trans ?_ (Evl.Ex.new (by assumption)); walk_at "ex")
  | (refine Evl.Ex.trans ?_ (by assumption); walk_at "ex"))
local macro_rules | `(tactic| walk_at "sq") => `(tactic| first
  | assumption
  | exact .inl (.inl (by assumption))
  | exact .inl (.inl upd_same)
  | (apply ex_sqL (Evl.Ex.new (by assumption)); walk_at "sq")
  | (apply ex_sqT (Evl.Ex.new (by assumption)); walk_at "sq")
  | (apply ex_sqL (by assumption); walk_at "sq")
  | (apply ex_sqT (by assumption); walk_at "sq"))
local macro_rules | `(tactic| walk_at "dp") => `(tactic| first
  | exact Dp.int _
  | exact Dp.str _
  | exact Dp.bl _
  | exact Dp.non
  | (refine Dp.tup (by walk_at "sq") ?_; walk_at "dpa")
  | (refine Dp.lst (by walk_at "sq") ?_; walk_at "dpa"))
local macro_rules | `(tactic| walk_at "dpa") => `(tactic| first
  | exact DpAll.nil
  | (refine DpAll.cons (by walk_at "dp") ?_; walk_at "dpa"))
local macro_rules | `(tactic| walk_at "at") => `(tactic| first
  | assumption
  | exact upd_same
  | (apply ex_at (Evl.Ex.new (by assumption)); walk_at "at")
  | (apply ex_at (by assumption); walk_at "at"))
local macro_rules | `(tactic| walk_at "sd") => `(tactic| first
  | decide
  | omega
  | (unfold CDiv; omega)
  | (unfold CMul; omega)
  | (unfold CPow; omega)
  | (simp only [CDiv, CMul, CPow]; omega)
  | (refine fits_of ?_; simp only [List.length_append, List.length_cons, List.length_nil, List.length_map]; omega)
  | exact fits_of (by first | decide | omega | (simp only [List.length_cons, List.length_nil]; omega))
  | exact fits_lt (by first | decide | omega | (simp only [List.length_map]; omega))
  | exact fits_lt (by simp only [List.length_append, List.length_cons, List.length_nil, List.length_map] <;> omega)
  | exact fits_of (by simp only [List.length_append, List.length_cons, List.length_nil, List.length_map] <;> omega)
  | exact log_small (by omega)
  | exact fits_of (of_decide_eq_true rfl)
  | exact fits_of (by simp only [len_app, len_stxt, len_sing]; omega))
local macro_rules | `(tactic| walk_at "go") => `(tactic| repeat walk_at "g1")
local macro_rules | `(tactic| walk_at "g1") => `(tactic| first
  | with_reducible apply Wk1.out
  | ((with_reducible show tVar _ _ _ _); refine g_var rfl ?_)
  | ((with_reducible refine g_rI ?h ?_); (case h => walk_at "sd"))
  | ((with_reducible show rIxL _ _ _ _ _); refine g_ixL (by walk_at "sq") (by first | exact atI_nat (j := 3) rfl | exact atI_nat (j := 4) rfl) ?_)
  | ((with_reducible show rIxL _ _ _ _ _); refine g_ixL (by walk_at "sq") (by first | exact atI_nat (j := 0) rfl | exact atI_nat (j := 1) rfl | exact atI_nat (j := 2) rfl | exact atI_nat (j := 3) rfl | exact atI_nat (j := 4) rfl | exact at_ints (by omega) (by omega)) ?_)
  | ((with_reducible show rIxT _ _ _ _ _); refine g_ixT (by walk_at "sq") (by first | exact atI_nat (j := 3) rfl | exact atI_nat (j := 4) rfl | exact atI_nat (j := 5) rfl | exact atI_nat (j := 6) rfl) ?_)
  | ((with_reducible show rIxT _ _ _ _ _); refine g_ixT (by walk_at "sq") (by first | exact atI_nat (j := 0) rfl | exact atI_nat (j := 1) rfl | exact atI_nat (j := 2) rfl | exact atI_nat (j := 3) rfl | exact atI_nat (j := 4) rfl | exact rfl) ?_)
  | ((with_reducible show rLen _ _ _ _); refine g_lenL (by walk_at "sq") ?_)
  | ((with_reducible show rLen _ _ _ _); refine g_lenT (by walk_at "sq") ?_)
  | ((with_reducible show rIL _ _ _ _); refine g_atL (by walk_at "sq") ?_)
  | ((with_reducible refine g_new ?h ?_); (case h => walk_at "sd"); intro _ _)
  | ((with_reducible show tyV _ "list" _ _ ∧ _); refine g_tyL (by walk_at "sq") ?_)
  | ((with_reducible show rAppend _ _ _ _); refine g_app (by walk_at "at") (by walk_at "sd") ?_)
  | ((with_reducible refine g_rng ?h ?_); (case h => walk_at "sd"))
  | ((with_reducible show tTruK _ _ _ _ _); refine g_tru ?_)
  | ((with_reducible show rIxS _ _ _ _); refine g_ix36 ?_)
  | ((with_reducible show tDisp _ _ _ _); refine g_disp ?_; intro _ _)
  | ((with_reducible show rIn _ false _ _ _ _); refine g_inL (by walk_at "sq") ?_)
  | ((with_reducible show rIn _ true _ _ _ _); refine g_ninL (by walk_at "sq") ?_)
  | ((with_reducible show rIn _ false _ _ _ _); refine g_inT (by walk_at "sq") ?_)
  | ((with_reducible show rIn _ true _ _ _ _); refine g_ninT (by walk_at "sq") ?_)
  | ((with_reducible show gTup _ _ _ _ _ _ _); refine g_gtup3 (by walk_at "sq") ?_)
  | ((with_reducible show gTup _ _ _ _ _ _ _); refine g_gtup7 (by walk_at "sq") ?_)
  | ((with_reducible show rTupOf _ _ _ _); refine g_tupL (by walk_at "sq") ?_; intro _ _)
  | ((with_reducible show rTupOf _ _ _ _); refine g_tupT (by walk_at "sq") ?_; intro _ _)
  | ((with_reducible show rIEn _ _ _ _); refine g_enL (by walk_at "sq") ?_)
  | ((with_reducible refine g_lenS ?h ?_); (case h => walk_at "sd"))
  | ((with_reducible refine g_strI ?h ?_); (case h => walk_at "sd"))
  | ((with_reducible refine g_addS ?h ?_); (case h => walk_at "sd"))
  | ((with_reducible show rIT _ _ _ _); refine g_atT (by walk_at "sq") ?_)
  | ((with_reducible show rSlL _ _ _ _ _ _); refine g_slL (by walk_at "sq") ?_; intro _ _)
  | ((with_reducible refine g_slS ?h ?_); (case h => walk_at "sd"))
  | ((with_reducible show tAug _ _ _ _ _ _); refine g_aug rfl ?_)
  | ((with_reducible refine g_jsS ?h ?_); (case h => walk_at "sd"))
  | ((with_reducible refine g_fmtI ?h ?_); (case h => walk_at "sd"))
  | ((with_reducible refine g_fmtS ?h ?_); (case h => walk_at "sd"))
  | ((with_reducible show rAll _ _ _ _); refine g_allF (by walk_at "sq") ?_)
  | ((with_reducible show gTup _ _ _ _ _ _ _); refine g_gtup2 (by walk_at "sq") ?_)
  | ((with_reducible show rRjust _ _ _ _); refine g_rjust (by first | rfl | decide) (by first | rfl | decide) ?_)
  | ((with_reducible show rSplitMax _ _ _ _); refine g_splitMax (by first | rfl | decide) (by first | decide | omega) (by walk_at "sd") ?_; intro _ _)
  | ((with_reducible show rSplit _ _ _ _); refine g_split (by first | rfl | decide) (by walk_at "sd") ?_; intro _ _)
  | ((with_reducible show wipe _ _ = wipe _ _ ∧ _); refine ⟨rfl, ?_⟩)
  | ((with_reducible show _ ≤ sizeLine ∧ _); refine ⟨by walk_at "sd", ?_⟩)
  | ((with_reducible show rIxS _ _ _ _); refine g_ixS (by walk_at "sd") (by exact at_codes (by omega) (by first | omega | (rw [← len_tl]; omega))) ?_)
  | ((with_reducible show rMulS _ _ _ _); refine g_mulS (by first | decide | omega) (by decide +kernel) ?_)
  | ((with_reducible show rListOf _ _ _ _); refine g_listL (by walk_at "sq") ?_; intro _ _)
  | ((with_reducible show rListOf _ _ _ _); refine g_listT (by walk_at "sq") ?_; intro _ _)
  | ((with_reducible show tDNewK _ _ _); refine g_dnew ?_; intro _ _)
  | ((with_reducible show rRaise _ _ _ _ _ _); refine g_raise1 ?_; intro _ _)
  | ((with_reducible show rXf _ _ _ _ _ _ _ _); refine g_xf1 (by walk_at "at") (by rfl) ?_)
  | ((with_reducible show rIsED _ _ _ _ _ _ _ _); refine g_isED (by assumption) (by walk_at "at") ?_)
  | ((with_reducible show rCat _ _ _ _); refine g_cat (by walk_at "at") (by walk_at "at") (by first | omega | (refine fits_of ?_; simp only [List.length_append, List.length_cons, List.length_nil, List.length_map, List.length_take, List.length_drop]; omega)) ?_; intro _ _)
  | ((with_reducible show rDIn _ _ _ _); refine g_dinS (by walk_at "at") ?_)
  | ((with_reducible show rDNin _ _ _ _); refine g_dninS (by walk_at "at") ?_)
  | ((with_reducible show rDPut _ _ _ _ _ _); refine g_dputS (by walk_at "at") (by walk_at "sd") ?_)
  | ((with_reducible show rInst _ _ _ _); refine g_instS (by walk_at "ki") ?_)
  | ((with_reducible show rInst _ _ _ _); refine g_instI (by walk_at "ki") ?_)
  | ((with_reducible show rInst _ _ _ _); refine g_instB (by walk_at "ki") ?_)
  | ((with_reducible show rInst _ _ _ _); refine g_instN (by walk_at "ki") ?_)
  | ((with_reducible show rInst _ _ _ _); refine g_instT (by walk_at "sq") (by walk_at "ki") ?_)
  | ((with_reducible show rInst _ _ _ _); refine g_instL (by walk_at "sq") (by walk_at "ki") ?_)
  | ((with_reducible show rSlT _ _ none (some 1) _ _); refine g_slT1 (by walk_at "sq") ?_; intro _ _)
  | ((with_reducible show rSlT _ _ (some 1) none _ _); refine g_slTt (by walk_at "sq") ?_; intro _ _)
  | ((with_reducible show if (!true) = true then _ else _); refine w_no rfl ?_)
  | ((with_reducible show if (!false) = true then _ else _); refine w_yes rfl ?_))
def topS (i : Nat) : Stmt := PySem.Challenge.pw_limitweave_k40_bodies.main.body.getD i (.Pass ⟨0, 0, 0, 0⟩)
abbrev s_is_name : Stmt := topS 3
abbrev s_is_key : Stmt := topS 4
abbrev s_ascends : Stmt := topS 5
abbrev s_is_entry : Stmt := topS 6
abbrev s_read_number : Stmt := topS 9
abbrev s_read_entry : Stmt := topS 10
abbrev s_number_or_none : Stmt := topS 15
abbrev s_view_words : Stmt := topS 16
abbrev s_view_body : Stmt := topS 17
abbrev s_head_body : Stmt := topS 18
abbrev s_word_of : Stmt := topS 19
abbrev s_row_body : Stmt := topS 20
abbrev s_read_moment : Stmt := topS 21
abbrev s_read_view : Stmt := topS 22
abbrev s_read_head : Stmt := topS 23
abbrev s_read_refusal : Stmt := topS 24
abbrev s_read_row : Stmt := topS 25
abbrev s_read_parts : Stmt := topS 26
abbrev s_read_body : Stmt := topS 27
abbrev s__law_row : Stmt := topS 29
abbrev s__law_numbers : Stmt := topS 30
abbrev s__law_row_body : Stmt := topS 31
abbrev s__law_head_body : Stmt := topS 32
abbrev s__law_view_words : Stmt := topS 33
abbrev s__law_view_body : Stmt := topS 34
abbrev s__law_names : Stmt := topS 35
abbrev s__law_view : Stmt := topS 36
abbrev s__law_keeper_row : Stmt := topS 37
abbrev s__law_wrong_bodies : Stmt := topS 38
abbrev s_law : Stmt := topS 39
theorem sc_is_name : FnScope ["text", "letter"] ["text"] (defScope s_is_name) := ⟨rfl, rfl, rfl, by decide +kernel, rfl, by decide +kernel, by decide +kernel⟩
theorem sc_is_key : FnScope ["text", "letter"] ["text"] (defScope s_is_key) := ⟨rfl, rfl, rfl, by decide +kernel, rfl, by decide +kernel, by decide +kernel⟩
theorem sc_ascends : FnScope ["names", "k"] ["names"] (defScope s_ascends) := ⟨rfl, rfl, rfl, by decide +kernel, rfl, by decide +kernel, by decide +kernel⟩
theorem sc_is_entry : FnScope ["entry", "texts", "part"] ["entry"] (defScope s_is_entry) := ⟨rfl, rfl, rfl, by decide +kernel, rfl, by decide +kernel, by decide +kernel⟩
theorem sc_read_number : FnScope ["part", "digits", "sign"] ["part", "digits"] (defScope s_read_number) := ⟨rfl, rfl, rfl, by decide +kernel, rfl, by decide +kernel, by decide +kernel⟩
theorem sc_read_entry : FnScope ["line", "parts", "cost", "moment"] ["line"] (defScope s_read_entry) := ⟨rfl, rfl, rfl, by decide +kernel, rfl, by decide +kernel, by decide +kernel⟩
theorem sc_number_or_none : FnScope ["number"] ["number"] (defScope s_number_or_none) := ⟨rfl, rfl, rfl, by decide +kernel, rfl, by decide +kernel, by decide +kernel⟩
theorem sc_view_words : FnScope ["view", "number", "due", "houses"] ["view"] (defScope s_view_words) := ⟨rfl, rfl, rfl, by decide +kernel, rfl, by decide +kernel, by decide +kernel⟩
theorem sc_view_body : FnScope ["view"] ["view"] (defScope s_view_body) := ⟨rfl, rfl, rfl, by decide +kernel, rfl, by decide +kernel, by decide +kernel⟩
theorem sc_head_body : FnScope ["many", "entries", "moment", "view", "words"] ["many", "entries", "moment", "view"] (defScope s_head_body) := ⟨rfl, rfl, rfl, by decide +kernel, rfl, by decide +kernel, by decide +kernel⟩
theorem sc_word_of : FnScope ["row"] ["row"] (defScope s_word_of) := ⟨rfl, rfl, rfl, by decide +kernel, rfl, by decide +kernel, by decide +kernel⟩
theorem sc_row_body : FnScope ["row", "key", "group", "cost", "moment", "lacking", "earliest", "_", "words"] ["row"] (defScope s_row_body) := ⟨rfl, rfl, rfl, by decide +kernel, rfl, by decide +kernel, by decide +kernel⟩
theorem sc_read_moment : FnScope ["word", "moment"] ["word"] (defScope s_read_moment) := ⟨rfl, rfl, rfl, by decide +kernel, rfl, by decide +kernel, by decide +kernel⟩
theorem sc_read_view : FnScope ["words", "number", "due", "houses", "house"] ["words"] (defScope s_read_view) := ⟨rfl, rfl, rfl, by decide +kernel, rfl, by decide +kernel, by decide +kernel⟩
theorem sc_read_head : FnScope ["words", "many", "entries", "moment", "view"] ["words"] (defScope s_read_head) := ⟨rfl, rfl, rfl, by decide +kernel, rfl, by decide +kernel, by decide +kernel⟩
theorem sc_read_refusal : FnScope ["words", "moment", "names", "earliest", "name"] ["words", "moment"] (defScope s_read_refusal) := ⟨rfl, rfl, rfl, by decide +kernel, rfl, by decide +kernel, by decide +kernel⟩
theorem sc_read_row : FnScope ["words", "cost", "moment", "row", "refusal"] ["words"] (defScope s_read_row) := ⟨rfl, rfl, rfl, by decide +kernel, rfl, by decide +kernel, by decide +kernel⟩
theorem sc_read_parts : FnScope ["word", "words", "body", "entry"] ["word", "words", "body"] (defScope s_read_parts) := ⟨rfl, rfl, rfl, by decide +kernel, rfl, by decide +kernel, by decide +kernel⟩
theorem sc_read_body : FnScope ["body", "words", "kinds", "parts"] ["body"] (defScope s_read_body) := ⟨rfl, rfl, rfl, by decide +kernel, rfl, by decide +kernel, by decide +kernel⟩
theorem sc__law_row : FnScope ["_law_cell", "_law_many", "_law_row_here", "_law_rest", "_law_state", "_law_k"] ["_law_cell", "_law_many"] (defScope s__law_row) := ⟨rfl, rfl, rfl, by decide +kernel, rfl, by decide +kernel, by decide +kernel⟩
theorem sc__law_numbers : FnScope ["_law_script", "_law_many", "_law_cells", "_law_each", "_law_numbers_here", "_law_cell", "_law_number"] ["_law_script", "_law_many"] (defScope s__law_numbers) := ⟨rfl, rfl, rfl, by decide +kernel, rfl, by decide +kernel, by decide +kernel⟩
theorem sc__law_row_body : FnScope ["_law_row_here", "_law_words"] ["_law_row_here"] (defScope s__law_row_body) := ⟨rfl, rfl, rfl, by decide +kernel, rfl, by decide +kernel, by decide +kernel⟩
theorem sc__law_head_body : FnScope ["_law_rows", "_law_entries", "_law_moment", "_law_view_here", "_law_words"] ["_law_rows", "_law_entries", "_law_moment", "_law_view_here"] (defScope s__law_head_body) := ⟨rfl, rfl, rfl, by decide +kernel, rfl, by decide +kernel, by decide +kernel⟩
theorem sc__law_view_words : FnScope ["_law_view_here"] ["_law_view_here"] (defScope s__law_view_words) := ⟨rfl, rfl, rfl, by decide +kernel, rfl, by decide +kernel, by decide +kernel⟩
theorem sc__law_view_body : FnScope ["_law_view_here"] ["_law_view_here"] (defScope s__law_view_body) := ⟨rfl, rfl, rfl, by decide +kernel, rfl, by decide +kernel, by decide +kernel⟩
theorem sc__law_names : FnScope ["_law_numbers_here", "_law_at", "_law_many", "_law_letters", "_law_names_here", "_law_k", "_law_size", "_law_tail", "_law_j"] ["_law_numbers_here", "_law_at", "_law_many"] (defScope s__law_names) := ⟨rfl, rfl, rfl, by decide +kernel, rfl, by decide +kernel, by decide +kernel⟩
theorem sc__law_view : FnScope ["_law_numbers_here", "_law_at", "_law_due", "_law_number"] ["_law_numbers_here", "_law_at"] (defScope s__law_view) := ⟨rfl, rfl, rfl, by decide +kernel, rfl, by decide +kernel, by decide +kernel⟩
theorem sc__law_keeper_row : FnScope ["_law_numbers_here", "_law_at", "_law_key", "_law_group", "_law_cost", "_law_moment", "_law_which", "_law_names_here", "_law_earliest"] ["_law_numbers_here", "_law_at"] (defScope s__law_keeper_row) := ⟨rfl, rfl, rfl, by decide +kernel, rfl, by decide +kernel, by decide +kernel⟩
theorem sc__law_wrong_bodies : FnScope ["_law_found"] [] (defScope s__law_wrong_bodies) := ⟨rfl, rfl, rfl, by decide +kernel, rfl, by decide +kernel, by decide +kernel⟩
theorem sc_law : FnScope ["_law_script", "_law_numbers_here", "_law_view_here", "_law_row_here", "_law_moment", "_law_last", "_law_head", "_law_body", "_law_text", "_law_entry", "_law_spoilt", "_law_part", "_law_other"] ["_law_script"] (defScope s_law) := ⟨rfl, rfl, rfl, by decide +kernel, rfl, by decide +kernel, by decide +kernel⟩
structure Ads where
  (f_is_name f_is_key f_ascends f_is_entry f_read_number f_read_entry f_number_or_none f_view_words f_view_body f_head_body f_word_of f_row_body f_read_moment f_read_view f_read_head f_read_refusal f_read_row f_read_parts f_read_body f__law_row f__law_numbers f__law_row_body f__law_head_body f__law_view_words f__law_view_body f__law_names f__law_view f__law_keeper_row f__law_wrong_bodies f_law : Addr)
  (d_is_name d_is_key d_ascends d_is_entry d_read_number d_read_entry d_number_or_none d_view_words d_view_body d_head_body d_word_of d_row_body d_read_moment d_read_view d_read_head d_read_refusal d_read_row d_read_parts d_read_body d__law_row d__law_numbers d__law_row_body d__law_head_body d__law_view_words d__law_view_body d__law_names d__law_view d__law_keeper_row d__law_wrong_bodies d_law : FuncData)
structure Txt (P : Program) (K : PySem.W.Frag) (mg : Str → Option Value) (a : Ads) : Prop where
  F_is_name : Fun K "is_name" "is_name" s_is_name a.f_is_name a.d_is_name
  g_is_name : mg "is_name" = some (.ref a.f_is_name)
  b_is_name : Binds K a.d_is_name ["text"] []
  F_is_key : Fun K "is_key" "is_key" s_is_key a.f_is_key a.d_is_key
  g_is_key : mg "is_key" = some (.ref a.f_is_key)
  b_is_key : Binds K a.d_is_key ["text"] []
  F_ascends : Fun K "ascends" "ascends" s_ascends a.f_ascends a.d_ascends
  g_ascends : mg "ascends" = some (.ref a.f_ascends)
  b_ascends : Binds K a.d_ascends ["names"] []
  F_is_entry : Fun K "is_entry" "is_entry" s_is_entry a.f_is_entry a.d_is_entry
  g_is_entry : mg "is_entry" = some (.ref a.f_is_entry)
  b_is_entry : Binds K a.d_is_entry ["entry"] []
  F_read_number : Fun K "read_number" "read_number" s_read_number a.f_read_number a.d_read_number
  g_read_number : mg "read_number" = some (.ref a.f_read_number)
  b_read_number : Binds K a.d_read_number ["part", "digits"] []
  F_read_entry : Fun K "read_entry" "read_entry" s_read_entry a.f_read_entry a.d_read_entry
  g_read_entry : mg "read_entry" = some (.ref a.f_read_entry)
  b_read_entry : Binds K a.d_read_entry ["line"] []
  F_number_or_none : Fun K "number_or_none" "number_or_none" s_number_or_none a.f_number_or_none a.d_number_or_none
  g_number_or_none : mg "number_or_none" = some (.ref a.f_number_or_none)
  b_number_or_none : Binds K a.d_number_or_none ["number"] []
  F_view_words : Fun K "view_words" "view_words" s_view_words a.f_view_words a.d_view_words
  g_view_words : mg "view_words" = some (.ref a.f_view_words)
  b_view_words : Binds K a.d_view_words ["view"] []
  F_view_body : Fun K "view_body" "view_body" s_view_body a.f_view_body a.d_view_body
  g_view_body : mg "view_body" = some (.ref a.f_view_body)
  b_view_body : Binds K a.d_view_body ["view"] []
  F_head_body : Fun K "head_body" "head_body" s_head_body a.f_head_body a.d_head_body
  g_head_body : mg "head_body" = some (.ref a.f_head_body)
  b_head_body : Binds K a.d_head_body ["many", "entries", "moment", "view"] []
  F_word_of : Fun K "word_of" "word_of" s_word_of a.f_word_of a.d_word_of
  g_word_of : mg "word_of" = some (.ref a.f_word_of)
  b_word_of : Binds K a.d_word_of ["row"] []
  F_row_body : Fun K "row_body" "row_body" s_row_body a.f_row_body a.d_row_body
  g_row_body : mg "row_body" = some (.ref a.f_row_body)
  b_row_body : Binds K a.d_row_body ["row"] []
  F_read_moment : Fun K "read_moment" "read_moment" s_read_moment a.f_read_moment a.d_read_moment
  g_read_moment : mg "read_moment" = some (.ref a.f_read_moment)
  b_read_moment : Binds K a.d_read_moment ["word"] []
  F_read_view : Fun K "read_view" "read_view" s_read_view a.f_read_view a.d_read_view
  g_read_view : mg "read_view" = some (.ref a.f_read_view)
  b_read_view : Binds K a.d_read_view ["words"] []
  F_read_head : Fun K "read_head" "read_head" s_read_head a.f_read_head a.d_read_head
  g_read_head : mg "read_head" = some (.ref a.f_read_head)
  b_read_head : Binds K a.d_read_head ["words"] []
  F_read_refusal : Fun K "read_refusal" "read_refusal" s_read_refusal a.f_read_refusal a.d_read_refusal
  g_read_refusal : mg "read_refusal" = some (.ref a.f_read_refusal)
  b_read_refusal : Binds K a.d_read_refusal ["words", "moment"] []
  F_read_row : Fun K "read_row" "read_row" s_read_row a.f_read_row a.d_read_row
  g_read_row : mg "read_row" = some (.ref a.f_read_row)
  b_read_row : Binds K a.d_read_row ["words"] []
  F_read_parts : Fun K "read_parts" "read_parts" s_read_parts a.f_read_parts a.d_read_parts
  g_read_parts : mg "read_parts" = some (.ref a.f_read_parts)
  b_read_parts : Binds K a.d_read_parts ["word", "words", "body"] []
  F_read_body : Fun K "read_body" "read_body" s_read_body a.f_read_body a.d_read_body
  g_read_body : mg "read_body" = some (.ref a.f_read_body)
  b_read_body : Binds K a.d_read_body ["body"] []
  F__law_row : Fun K "_law_row" "_law_row" s__law_row a.f__law_row a.d__law_row
  g__law_row : mg "_law_row" = some (.ref a.f__law_row)
  b__law_row : Binds K a.d__law_row ["_law_cell", "_law_many"] []
  F__law_numbers : Fun K "_law_numbers" "_law_numbers" s__law_numbers a.f__law_numbers a.d__law_numbers
  g__law_numbers : mg "_law_numbers" = some (.ref a.f__law_numbers)
  b__law_numbers : Binds K a.d__law_numbers ["_law_script", "_law_many"] []
  F__law_row_body : Fun K "_law_row_body" "_law_row_body" s__law_row_body a.f__law_row_body a.d__law_row_body
  g__law_row_body : mg "_law_row_body" = some (.ref a.f__law_row_body)
  b__law_row_body : Binds K a.d__law_row_body ["_law_row_here"] []
  F__law_head_body : Fun K "_law_head_body" "_law_head_body" s__law_head_body a.f__law_head_body a.d__law_head_body
  g__law_head_body : mg "_law_head_body" = some (.ref a.f__law_head_body)
  b__law_head_body : Binds K a.d__law_head_body ["_law_rows", "_law_entries", "_law_moment", "_law_view_here"] []
  F__law_view_words : Fun K "_law_view_words" "_law_view_words" s__law_view_words a.f__law_view_words a.d__law_view_words
  g__law_view_words : mg "_law_view_words" = some (.ref a.f__law_view_words)
  b__law_view_words : Binds K a.d__law_view_words ["_law_view_here"] []
  F__law_view_body : Fun K "_law_view_body" "_law_view_body" s__law_view_body a.f__law_view_body a.d__law_view_body
  g__law_view_body : mg "_law_view_body" = some (.ref a.f__law_view_body)
  b__law_view_body : Binds K a.d__law_view_body ["_law_view_here"] []
  F__law_names : Fun K "_law_names" "_law_names" s__law_names a.f__law_names a.d__law_names
  g__law_names : mg "_law_names" = some (.ref a.f__law_names)
  b__law_names : Binds K a.d__law_names ["_law_numbers_here", "_law_at", "_law_many"] []
  F__law_view : Fun K "_law_view" "_law_view" s__law_view a.f__law_view a.d__law_view
  g__law_view : mg "_law_view" = some (.ref a.f__law_view)
  b__law_view : Binds K a.d__law_view ["_law_numbers_here", "_law_at"] []
  F__law_keeper_row : Fun K "_law_keeper_row" "_law_keeper_row" s__law_keeper_row a.f__law_keeper_row a.d__law_keeper_row
  g__law_keeper_row : mg "_law_keeper_row" = some (.ref a.f__law_keeper_row)
  b__law_keeper_row : Binds K a.d__law_keeper_row ["_law_numbers_here", "_law_at"] []
  F__law_wrong_bodies : Fun K "_law_wrong_bodies" "_law_wrong_bodies" s__law_wrong_bodies a.f__law_wrong_bodies a.d__law_wrong_bodies
  g__law_wrong_bodies : mg "_law_wrong_bodies" = some (.ref a.f__law_wrong_bodies)
  b__law_wrong_bodies : Binds K a.d__law_wrong_bodies [] []
  F_law : Fun K "law" "law" s_law a.f_law a.d_law
  g_law : mg "law" = some (.ref a.f_law)
  b_law : Binds K a.d_law ["_law_script"] []
  z_abs : mg "abs" = none
  z_all : mg "all" = none
  z_int : mg "int" = none
  z_isinstance : mg "isinstance" = none
  z_len : mg "len" = none
  z_list : mg "list" = none
  z_max : mg "max" = none
  z_min : mg "min" = none
  z_range : mg "range" = none
  z_repr : mg "repr" = none
  z_set : mg "set" = none
  z_sorted : mg "sorted" = none
  z_str : mg "str" = none
  z_tuple : mg "tuple" = none
  c_LETTERS : ∃ u, mg "LETTERS" = some u ∧ RelV (.str "abcdefghijklmnopqrstuvwxyz0123456789") u
  c_MOST_MOMENT : ∃ u, mg "MOST_MOMENT" = some u ∧ RelV (.int 1000000000) u
  c_DIGITS : ∃ u, mg "DIGITS" = some u ∧ RelV (.str "0123456789") u
  c_MOST_HOUSES : ∃ u, mg "MOST_HOUSES" = some u ∧ RelV (.int 8) u
  c_NONE : ∃ u, mg "NONE" = some u ∧ RelV (.str "none") u
  c_NEVER : ∃ u, mg "NEVER" = some u ∧ RelV (.str "never") u
def In9 (ns : List Int) : Prop := ∀ n ∈ ns, 0 ≤ n ∧ n < 1009
theorem In9.nil : In9 [] := fun _ h => nomatch h
theorem In9.snoc {ns : List Int} {n : Int} (h : In9 ns) (h0 : 0 ≤ n) (h1 : n < 1009) : In9 (ns ++ [n]) := fun m hm => by
  rcases List.mem_append.mp hm with z | z
  · exact h m z
  · rw [List.mem_singleton.mp z]; exact ⟨h0, h1⟩
theorem In9.at {ns : List Int} (h : In9 ns) (i : Nat) (hi : i < ns.length) : 0 ≤ ns.getD i 0 ∧ ns.getD i 0 < 1009 := by
  have e : ns.getD i 0 = ns[i] := by rw [List.getD_eq_getElem?_getD, List.getElem?_eq_getElem hi]; rfl
  rw [e]
  exact h _ (List.getElem_mem hi)
theorem map_snoc {ns : List Int} {n : Int} : ns.map V.int ++ [V.int n] = (ns ++ [n]).map V.int := by rw [List.map_append]; rfl
def sp__law_row (K : PySem.W.Frag) : Sp := fun vs H Q _ => ∃ (c m : Int), vs = [.int c, .int m] ∧ 0 ≤ m ∧ m ≤ 10000 ∧
  ∀ p H' ns, H p = none → Ex H H' → H' p = some (.lst (ns.map V.int)) → (ns.length : Int) = m → In9 ns → Q (.ref p) H'
def sp__law_numbers (K : PySem.W.Frag) : Sp := fun vs H Q _ => ∃ (l : Addr) (xs : List Int) (m : Int), vs = [.ref l, .int m] ∧ SqL K H l (xs.map V.int) ∧ xs.length ≤ 63 ∧ 0 ≤ m ∧ m ≤ 9000 ∧
  ∀ p H' ns, H p = none → Ex H H' → H' p = some (.lst (ns.map V.int)) → (ns.length : Int) = m → In9 ns → Q (.ref p) H'
def oI : Option Int → V
  | none => .non
  | some n => .int n
def sp_read_number (K : PySem.W.Frag) : Sp := fun vs H Q _ => ∃ (z : Str) (k : Int), vs = [.str z, .int k] ∧ z.length ≤ 100000 ∧ k ≤ 600 ∧ ∀ H', Ex H H' → Q (oI (numOf k (tl z))) H'
theorem mem_digits (c : Nat) : c ∈ ("0123456789" : Str).cps.toList ↔ 48 ≤ c ∧ c ≤ 57 := by
  rw [show ("0123456789" : Str).cps.toList = [48, 49, 50, 51, 52, 53, 54, 55, 56, 57] by decide +kernel]
  simp only [List.mem_cons, List.not_mem_nil, or_false]
  omega
def sp_number_or_none (K : PySem.W.Frag) : Sp := fun vs H Q _ => ∃ e : Option Int, vs = [oN e] ∧ (∀ i, e = some i → small i) ∧ ∀ H', Ex H H' → Q (.str (numW e)) H'
def sp_view_words (K : PySem.W.Frag) : Sp := fun vs H Q _ => ∃ (p : Addr) (v : Vw), vs = [.ref p] ∧ VwAt K H p v ∧ v.Ok ∧ ∀ (q : Addr) H', H q = none → Ex H H' → H' q = some (.lst ((vwW v).map V.str)) → Q (.ref q) H'
def sp_view_body (K : PySem.W.Frag) : Sp := fun vs H Q _ => ∃ (p : Addr) (v : Vw), vs = [.ref p] ∧ VwAt K H p v ∧ v.Ok ∧ ∀ H', Ex H H' → Q (.str (vwB v)) H'
def sp_head_body (K : PySem.W.Frag) : Sp := fun vs H Q _ => ∃ (m e : Int) (mo : Option Int) (x : V) (v : Option Vw), vs = [.int m, .int e, oN mo, x] ∧ OVw K H x v ∧ small m ∧ small e ∧ (∀ i, mo = some i → small i) ∧ (∀ u, v = some u → u.Ok) ∧ ∀ H', Ex H H' → Q (.str (hdB m e mo v)) H'
def sp_word_of (K : PySem.W.Frag) : Sp := fun vs H Q _ => ∃ (p : Addr) (r : KRow), vs = [.ref p] ∧ KrAt K H p r ∧ Q (.str (wdOf r)) H
def sp_row_body (K : PySem.W.Frag) : Sp := fun vs H Q _ => ∃ (p : Addr) (r : KRow), vs = [.ref p] ∧ KrAt K H p r ∧ r.Ok ∧ ∀ H', Ex H H' → Q (.str (krB r)) H'
def sp_ascends (K : PySem.W.Frag) : Sp := fun vs H Q _ => ∃ (p : Addr) (zs : List Str), vs = [.ref p] ∧ SqQ K H p (zs.map V.str) ∧ zs.length ≤ 1000 ∧ ∀ H', Ex H H' → Q (.bl (ascB zs)) H'
def sp_read_moment (K : PySem.W.Frag) : Sp := fun vs H Q _ => ∃ z : Str, vs = [.str z] ∧ z.length ≤ 100000 ∧ ∀ H', Ex H H' → Q (oN (readMo z)) H'
def sp_read_view (K : PySem.W.Frag) : Sp := fun vs H Q _ => ∃ (p : Addr) (ws : List Str), vs = [.ref p] ∧ SqL K H p (ws.map V.str) ∧ (∀ w ∈ ws, w.length ≤ 100000) ∧ ws.length ≤ 100000 ∧
  (readVw ws = none → ∀ H', Ex H H' → Q .non H') ∧ ∀ v, readVw ws = some v → ∀ q H', H q = none → Ex H H' → VwAt K H' q v → Q (.ref q) H'
def sp_read_head (K : PySem.W.Frag) : Sp := fun vs H Q _ => ∃ (p : Addr) (ws : List Str), vs = [.ref p] ∧ SqL K H p (ws.map V.str) ∧ (∀ w ∈ ws, w.length ≤ 100000) ∧ ws.length ≤ 100000 ∧
  (readHd ws = none → ∀ H', Ex H H' → Q .non H') ∧ ∀ b, readHd ws = some b → ∀ q H', H q = none → Ex H H' → PaAt K H' q b → Q (.ref q) H'
def sp_read_refusal (K : PySem.W.Frag) : Sp := fun vs H Q _ => ∃ (p : Addr) (w ns : Str) (mo : Int), vs = [.ref p, .int mo] ∧ SqL K H p [.str w, .str ns] ∧ w.length ≤ 100000 ∧ ns.length ≤ 100000 ∧
  (readRef w ns mo = none → ∀ H', Ex H H' → Q .non H') ∧ ∀ r, readRef w ns mo = some r → ∀ q l H', H q = none → Ex H H' → SqT K H' q [.ref l, oN r.2] → SqT K H' l (r.1.map V.str) → Q (.ref q) H'
def sp_read_row (K : PySem.W.Frag) : Sp := fun vs H Q _ => ∃ (p : Addr) (ws : List Str), vs = [.ref p] ∧ SqL K H p (ws.map V.str) ∧ (∀ w ∈ ws, w.length ≤ 100000) ∧ ws.length ≤ 100000 ∧
  (readKr ws = none → ∀ H', Ex H H' → Q .non H') ∧ ∀ r, readKr ws = some r → ∀ q H', Ex H H' → KrAt K H' q r → Q (.ref q) H'
def sp_read_parts (K : PySem.W.Frag) : Sp := fun vs H Q _ => ∃ (p : Addr) (ws : List Str) (k z : Str), vs = [.str k, .ref p, .str z] ∧ SqL K H p (ws.map V.str) ∧ (∀ w ∈ ws, w.length ≤ 100000) ∧ ws.length ≤ 100000 ∧ z.length ≤ 90000 ∧
  (readPa k ws z = none → ∀ H', Ex H H' → Q .non H') ∧ ∀ b, readPa k ws z = some b → ∀ q H', Ex H H' → PaAt K H' q b → Q (.ref q) H'
def sp_read_body (K : PySem.W.Frag) : Sp := fun vs H Q _ => ∃ z : Str, vs = [.str z] ∧ z.length ≤ 90000 ∧ (readBd z = none → ∀ H', Ex H H' → Q .non H') ∧
  ∀ b, readBd z = some b → ∀ p H', H p = none → Ex H H' → BdAt K H' p b → Q (.ref p) H'
def sp_is_name (K : PySem.W.Frag) : Sp := fun vs H Q _ => ∃ z : Str, vs = [.str z] ∧ z.length ≤ 100000 ∧ ∀ H', Ex H H' → Q (.bl (isName z)) H'
def sp_is_key (K : PySem.W.Frag) : Sp := fun vs H Q _ => ∃ z : Str, vs = [.str z] ∧ z.length ≤ 100000 ∧ ∀ H', Ex H H' → Q (.bl (isKey z)) H'
def sp_is_entry (K : PySem.W.Frag) : Sp := fun vs H Q _ => ∃ (p : Addr) (e : Ent), vs = [.ref p] ∧ SqT K H p e.vs ∧ (∀ z, V.str z ∈ e.vs → z.length ≤ 100000) ∧ ∀ H', Ex H H' → Q (.bl e.ok) H'
def sp_read_entry (K : PySem.W.Frag) : Sp := fun vs H Q _ => ∃ z : Str, vs = [.str z] ∧ z.length ≤ 100000 ∧ (readEnt z = none → ∀ H', Ex H H' → Q .non H') ∧
  ∀ e, readEnt z = some e → ∀ p H', H p = none → Ex H H' → H' p = some (.tup e.vs) → Q (.ref p) H'
def sp__law_view_words (K : PySem.W.Frag) : Sp := fun vs H Q _ => ∃ (p : Addr) (v : Vw), vs = [.ref p] ∧ VwAt K H p v ∧ v.Ok ∧ ∀ (q : Addr) H', H q = none → Ex H H' → H' q = some (.lst ((vwW v).map V.str)) → Q (.ref q) H'
def sp__law_view_body (K : PySem.W.Frag) : Sp := fun vs H Q _ => ∃ (p : Addr) (v : Vw), vs = [.ref p] ∧ VwAt K H p v ∧ v.Ok ∧ ∀ H', Ex H H' → Q (.str (vwB v)) H'
def sp__law_row_body (K : PySem.W.Frag) : Sp := fun vs H Q _ => ∃ (p : Addr) (r : KRow), vs = [.ref p] ∧ KrAt K H p r ∧ r.Ok ∧ ∀ H', Ex H H' → Q (.str (krB r)) H'
def sp__law_head_body (K : PySem.W.Frag) : Sp := fun vs H Q _ => ∃ (l : Addr) (e : Int) (mo : Option Int) (x : V) (v : Option Vw) (rows : List V), vs = [.ref l, .int e, oN mo, x] ∧ SqL K H l rows ∧ rows.length ≤ 5000 ∧ OVw K H x v ∧ small e ∧ (∀ i, mo = some i → small i) ∧ (∀ u, v = some u → u.Ok) ∧ ∀ H', Ex H H' → Q (.str (hdB (rows.length : Int) e mo v)) H'
def sp__law_names (K : PySem.W.Frag) : Sp := fun vs H Q _ => ∃ (l : Addr) (ns : List Int) (at_ m : Int), vs = [.ref l, .int at_, .int m] ∧ SqL K H l (ns.map V.int) ∧ In9 ns ∧ 0 ≤ at_ ∧ 0 ≤ m ∧ m ≤ 8 ∧ at_ + m ≤ ns.length ∧ 1 ≤ m ∧
  ∀ (p : Addr) (zs : List Str) H', Ex H H' → SqT K H' p (zs.map V.str) → zs.Nodup → (∀ z ∈ zs, isName z = true) → (zs.length : Int) = m → Q (.ref p) H'
def sp__law_view (K : PySem.W.Frag) : Sp := fun vs H Q _ => ∃ (l : Addr) (ns : List Int) (at_ : Int), vs = [.ref l, .int at_] ∧ SqL K H l (ns.map V.int) ∧ In9 ns ∧ 0 ≤ at_ ∧ at_ + 11 ≤ ns.length ∧
  ∀ (p : Addr) (v : Vw) H', Ex H H' → VwAt K H' p v → v.Good → Q (.ref p) H'
def sp__law_keeper_row (K : PySem.W.Frag) : Sp := fun vs H Q _ => ∃ (l : Addr) (ns : List Int) (at_ : Int), vs = [.ref l, .int at_] ∧ SqL K H l (ns.map V.int) ∧ In9 ns ∧ 0 ≤ at_ ∧ at_ + 14 ≤ ns.length ∧
  ∀ (p : Addr) (r : KRow) H', Ex H H' → KrAt K H' p r → r.Good → Q (.ref p) H'
def sp__law_wrong_bodies (K : PySem.W.Frag) : Sp := fun vs H Q _ => vs = [] ∧ ∀ (q : Addr) H', H q = none → Ex H H' → H' q = some (.lst (wrongL.map V.str)) → Q (.ref q) H'
def sp_law (K : PySem.W.Frag) : Sp := fun vs H Q _ => ∃ (l : Addr) (xs : List Int), vs = [.ref l] ∧ SqL K H l (xs.map V.int) ∧ xs.length ≤ 63 ∧ ∀ H', Q (.bl true) H'
section
variable {P : Program} {w : World} {K : PySem.W.Frag} {mg : Str → Option Value} {base : Heap} {a : Ads}
theorem ok__law_row (T : Txt P K mg a) : FnOk P w K mg base CX0 1 a.f__law_row a.d__law_row ["_law_cell", "_law_many"] (sp__law_row K) := by
  refine T.F__law_row.ok sc__law_row (fun vs H Q E h => ?len) (fun cdv A outer s H vs Q E hr h => ?body)
  case len => obtain ⟨c, m, rfl, _⟩ := h; rfl
  case body =>
    obtain ⟨c, m, rfl, hm0, hm1, q⟩ := h
    refine ⟨_, (pss_cons (ps_set (i := 2) sc__law_row.nd rfl (Or.inl rfl) (pe_lst pa_nil))
  (pss_cons (ps_set (i := 3) sc__law_row.nd rfl (Or.inl rfl) pe_int)
  (pss_cons (ps_if (pt_cmpR op_ge (pe_callB call_absN (by rfl) T.z_abs (by decide +kernel) (pa_cons (pv 0) pa_nil)) (pe_op op_pow pe_int pe_int) (nomark _))
   (pss_one (ps_set (i := 3) sc__law_row.nd rfl (Or.inl rfl) (pe_callB call_absN (by rfl) T.z_abs (by decide +kernel) (pa_cons (pv 0) pa_nil))))
   pss_nil)
  (pss_cons (ps_set (i := 4) sc__law_row.nd rfl (Or.inl rfl) (pe_op op_mod (pe_callTy call_intI (by rfl) T.z_int (by decide +kernel) (pa_cons (pe_callB call_absN (by rfl) T.z_abs (by decide +kernel) (pa_cons (pv 0) pa_nil)) pa_nil)) pe_int))
  (pss_cons (ps_for PassesOwn.never rfl (pi_range1 (by rfl) T.z_range (pa_cons (pv 1) pa_nil)) (pg_name (i := 5) sc__law_row.nd rfl (Or.inl rfl))
   (pss_cons (ps_set (i := 4) sc__law_row.nd rfl (Or.inl rfl) (pe_op op_mod (pe_callTy call_intI (by rfl) T.z_int (by decide +kernel) (pa_cons (pe_op op_add (pe_op op_mul (pe_op op_add (pv 4) pe_int) pe_int) (pe_op op_mul pe_int (pv 5))) pa_nil)) pe_int))
  (pss_one (ps_if (pt_cmpR op_gt (pv 3) pe_int (nomark _))
   (pss_cons (ps_expr (pe_bmK (K := K) rfl PySem.F.plainAttrs_list PySem.F.slot_list_append PySem.F.type_list_append mt_append (pv 2) (pa_cons (pe_op op_mod (pe_callTy call_intI (by rfl) T.z_int (by decide +kernel) (pa_cons (pv 3) pa_nil)) pe_int) pa_nil)))
  (pss_one (ps_set (i := 3) sc__law_row.nd rfl (Or.inl rfl) (pe_op op_fdiv (pv 3) pe_int))))
   (pss_one (ps_expr (pe_bmK (K := K) rfl PySem.F.plainAttrs_list PySem.F.slot_list_append PySem.F.type_list_append mt_append (pv 2) (pa_cons (pe_op op_mod (pe_callTy call_intI (by rfl) T.z_int (by decide +kernel) (pa_cons (pe_op op_fdiv (pv 4) pe_int) pa_nil)) pe_int) pa_nil))))))))
  (pss_one (ps_ret (pv 2)))))))), ?_⟩
    try dsimp only [cxOf, Cx.nox]
    walk_at "go"
    rename_i p hp
    refine w_ifset (fun x => ∃ r : Int, x = .int r ∧ 0 ≤ r) (fun _ R hR => ?_) (fun _ => ⟨_, rfl, 0, rfl, by omega⟩) ?_
    · walk_at "go"
      exact hR _ _ ⟨_, rfl, by split <;> omega⟩ (Evl.Ex.refl _)
    · rintro _ H0 ⟨r, rfl, hr0⟩ e0
      walk_at "go"
      refine l_it walk_range (fun i σ' H' => ∃ (r st : Int) (v5 : Option V) (ns : List Int), σ' = [some (.int c), some (.int m), some (.ref p), some (.int r), some (.int st), v5] ∧ 0 ≤ r ∧ 0 ≤ st ∧ st < 2147483647 ∧ Ex H H' ∧ H' p = some (.lst (ns.map V.int)) ∧ ns.length = i ∧ In9 ns)
        ⟨r, _, none, [], rfl, hr0, by omega, by omega, by walk_at "ex", e0 _ _ upd_same, rfl, In9.nil⟩ (fun _ _ _ _ _ => trivial) ?_ ?_
      · rintro i x σ' H1 H2 hi ⟨r, st, v5, ns, rfl, hr0, hst0, hst1, hE, hL, hlen, h9⟩ ⟨rfl, rfl⟩
        walk_at "go"
        have e0 : 0 ≤ (st + 1) * 48271 + 69621 * (0 + (i : Int)) := by omega
        refine w_dec (fun h => ?_) (fun h => ?_)
        · walk_at "go"
          exact ⟨_, _, _, ns ++ [r % 1009], rfl, by omega, Int.emod_nonneg _ (by decide), Int.emod_lt_of_pos _ (by decide), Evl.Ex.mut hE hp, by rw [upd_same, map_snoc], by simp [hlen], h9.snoc (Int.emod_nonneg _ (by decide)) (Int.emod_lt_of_pos _ (by decide))⟩
        · walk_at "go"
          exact ⟨_, _, _, ns ++ [_], rfl, hr0, Int.emod_nonneg _ (by decide), Int.emod_lt_of_pos _ (by decide), Evl.Ex.mut hE hp, by rw [upd_same, map_snoc], by simp [hlen], h9.snoc (Int.emod_nonneg _ (by decide)) (Int.emod_lt_of_pos _ (by decide))⟩
      · rintro σ' H1 ⟨r, st, v5, ns, rfl, hr0, hst0, hst1, hE, hL, hlen, h9⟩
        walk_at "go"
        exact q p H1 ns hp hE hL (by omega) h9
theorem ok__law_numbers (T : Txt P K mg a) : FnOk P w K mg base CX0 2 a.f__law_numbers a.d__law_numbers ["_law_script", "_law_many"] (sp__law_numbers K) := by
  refine T.F__law_numbers.ok sc__law_numbers (fun vs H Q E h => ?len) (fun cdv A outer s H vs Q E hr h => ?body)
  case len => obtain ⟨l, xs, m, rfl, _⟩ := h; rfl
  case body =>
    obtain ⟨l, xs, m, rfl, hS, hx, hm0, hm1, q⟩ := h
    refine ⟨_, (pss_cons (ps_set (i := 2) sc__law_numbers.nd rfl (Or.inl rfl) (pe_slice (sl_listK (K := K) rfl) (pv 0) po_none (po_some pe_int)))
  (pss_cons (ps_set (i := 3) sc__law_numbers.nd rfl (Or.inl rfl) (pe_op op_add pe_int (pe_op op_fdiv (pv 1) (pe_callB (call_max2N rfl) (by rfl) T.z_max (by decide +kernel) (pa_cons pe_int (pa_cons (pe_callB (call_lenK (K := K) rfl) (by rfl) T.z_len (by decide +kernel) (pa_cons (pv 2) pa_nil)) pa_nil))))))
  (pss_cons (ps_set (i := 4) sc__law_numbers.nd rfl (Or.inl rfl) (pe_lst pa_nil))
  (pss_cons (ps_for PassesOwn.never rfl (pi_listK (K := K) rfl (pv 2)) (pg_name (i := 5) sc__law_numbers.nd rfl (Or.inl rfl))
   (pss_one (ps_for PassesOwn.never rfl (pi_listK (K := K) rfl (pe_call (ok__law_row T) (hr.mono (by decide)) (by rfl) T.g__law_row T.F__law_row.kp T.b__law_row .nil pass0 (pa_cons (pv 5) (pa_cons (pv 3) pa_nil)))) (pg_name (i := 6) sc__law_numbers.nd rfl (Or.inl rfl))
   (pss_one (ps_expr (pe_bmK (K := K) rfl PySem.F.plainAttrs_list PySem.F.slot_list_append PySem.F.type_list_append mt_append (pv 4) (pa_cons (pv 6) pa_nil)))))))
  (pss_cons (ps_while PassesOwn.never (pt_cmpR op_lt (pe_callB (call_lenK (K := K) rfl) (by rfl) T.z_len (by decide +kernel) (pa_cons (pv 4) pa_nil)) (pv 1) (nomark _))
   (pss_one (ps_expr (pe_bmK (K := K) rfl PySem.F.plainAttrs_list PySem.F.slot_list_append PySem.F.type_list_append mt_append (pv 4) (pa_cons pe_int pa_nil)))))
  (pss_one (ps_ret (pe_slice (sl_listK (K := K) rfl) (pv 4) po_none (po_some (pv 1)))))))))), ?_⟩
    try dsimp only [cxOf, Cx.nox]
    walk_at "go"
    rename_i p hp
    have e1 : cutV (xs.map V.int) none (some 63) = xs.map V.int := by
      rw [cutV_to _ (by decide)]
      exact List.take_of_length_le (by rw [List.length_map]; exact hx)
    simp only [e1, List.length_map]
    have hd : 1 ≤ (if (xs.length : Int) > 1 then (xs.length : Int) else 1) ∧ (if (xs.length : Int) > 1 then (xs.length : Int) else 1) ≤ 63 := by split <;> omega
    generalize (if (xs.length : Int) > 1 then (xs.length : Int) else 1) = d at hd ⊢
    have hq0 : 0 ≤ m / d := Int.ediv_nonneg hm0 (by omega)
    have hq1 : m / d ≤ m := Int.ediv_le_self d hm0
    walk_at "go"
    rename_i pn hpn
    have npp : p ≠ pn := fun e => by rw [← e, upd_same] at hpn; cases hpn
    have hpn0 : H pn = none := by rw [upd_ne (Ne.symm npp)] at hpn; exact hpn
    refine l_it (walk_list (xs := xs.map V.int)) (fun i σ' H' => ∃ (v5 v6 : Option V) (ns : List Int), σ' = [some (.ref l), some (.int m), some (.ref p), some (.int (1 + m / d)), some (.ref pn), v5, v6] ∧ Ex H H' ∧ H' p = some (.lst (xs.map V.int)) ∧ H' pn = some (.lst (ns.map V.int)) ∧ ns.length ≤ 9001 * i ∧ In9 ns)
      ⟨none, none, [], rfl, by walk_at "ex", by rw [upd_ne npp, upd_same], upd_same, by simp, In9.nil⟩ (fun i σ' H' _ ⟨_, _, _, _, _, h, _⟩ => .inl (.inl h)) ?_ ?_
    · rintro i x σ' H1 H2 hi ⟨v5, v6, ns, rfl, hE, hP, hN, hlen, h9⟩ ⟨rfl, hxi⟩
      rw [List.length_map] at hi
      obtain ⟨c, rfl⟩ : ∃ c, x = V.int c := by
        rw [List.getElem?_map] at hxi
        cases e : xs[i]? with
        | none => rw [e] at hxi; cases hxi
        | some z => rw [e] at hxi; exact ⟨z, (Option.some.inj hxi).symm⟩
      walk_at "go"
      refine ⟨c, 1 + m / d, rfl, by omega, by omega, fun p' H3 ns' hp' hE' hL' hlen' h9' => ?_⟩
      walk_at "go"
      have np : p ≠ p' := ne_of_none hP hp'
      have nn : pn ≠ p' := ne_of_none hN hp'
      refine l_it (walk_list (xs := ns'.map V.int)) (fun j σ' H' => ∃ (v6 : Option V) (ns2 : List Int), σ' = [some (.ref l), some (.int m), some (.ref p), some (.int (1 + m / d)), some (.ref pn), some (.int c), v6] ∧ Ex H H' ∧ H' p = some (.lst (xs.map V.int)) ∧ H' p' = some (.lst (ns'.map V.int)) ∧ H' pn = some (.lst (ns2.map V.int)) ∧ ns2.length = ns.length + j ∧ In9 ns2)
        ⟨v6, ns, rfl, by walk_at "ex", by walk_at "at", by walk_at "at", by walk_at "at", rfl, h9⟩ (fun i σ' H' _ ⟨_, _, _, _, _, h, _⟩ => .inl (.inl h)) ?_ ?_
      · rintro j x σ' H4 H5 hj ⟨v6, ns2, rfl, hE, hP, hP', hN, hlen2, h92⟩ ⟨rfl, hxj⟩
        rw [List.length_map] at hj
        obtain ⟨y, hy, rfl⟩ : ∃ y, y ∈ ns' ∧ x = V.int y := by
          rw [List.getElem?_map] at hxj
          cases e : ns'[j]? with
          | none => rw [e] at hxj; cases hxj
          | some z => rw [e] at hxj; exact ⟨z, List.mem_of_getElem? e, (Option.some.inj hxj).symm⟩
        walk_at "go"
        exact ⟨_, ns2 ++ [y], rfl, Evl.Ex.mut hE hpn0, by rw [upd_ne npp]; exact hP, by rw [upd_ne (Ne.symm nn)]; exact hP', by rw [upd_same, map_snoc], by simp [hlen2]; omega, h92.snoc (h9' y hy).1 (h9' y hy).2⟩
      · rintro σ' H4 ⟨v6, ns2, rfl, hE, hP, hP', hN, hlen2, h92⟩
        rw [List.length_map] at hlen2
        exact ⟨_, v6, ns2, rfl, hE, hP, hN, by omega, h92⟩
    · rintro σ' H1 ⟨v5, v6, ns, rfl, hE, hP, hN, hlen, h9⟩
      rw [List.length_map] at hlen
      walk_at "go"
      refine l_while (fun k σ' H' => ∃ ns2 : List Int, σ' = [some (.ref l), some (.int m), some (.ref p), some (.int (1 + m / d)), some (.ref pn), v5, v6] ∧ Ex H H' ∧ H' pn = some (.lst (ns2.map V.int)) ∧ ns2.length ≤ 9001 * 63 + 9000 ∧ In9 ns2 ∧ k = 9000 - ns2.length) _ ⟨ns, rfl, hE, hN, by omega, h9, rfl⟩ ?_
      rintro k σ' H2 ⟨ns2, rfl, hE, hN, hlen2, h92, rfl⟩
      refine ⟨decide ((ns2.length : Int) < m), fun QB hQ => ?_, fun hb => ?_, fun hb => ?_⟩
      · walk_at "go"
        rw [List.length_map]
        exact hQ
      · have hb' := of_decide_eq_true hb
        walk_at "go"
        exact ⟨_, by rw [List.length_append, List.length_singleton]; omega, ns2 ++ [0], rfl, Evl.Ex.mut hE hpn0, by rw [upd_same, map_snoc], by rw [List.length_append, List.length_singleton]; omega, h92.snoc (by decide) (by decide), rfl⟩
      · have hb' := of_decide_eq_false hb
        walk_at "go"
        rename_i pr hpr
        refine q pr _ (ns2.take m.toNat) (ex_free hE hpr) (by walk_at "ex") (by rw [upd_same, cutV_to _ hm0, List.map_take]) (by rw [List.length_take]; omega) (fun n hn => h92 n (List.mem_of_mem_take hn))
theorem ok_read_number (T : Txt P K mg a) : FnOk P w K mg base CX0 1 a.f_read_number a.d_read_number ["part", "digits"] (sp_read_number K) := by
  refine T.F_read_number.ok sc_read_number (fun vs H Q E h => ?len) (fun cdv A outer s H vs Q E hr h => ?body)
  case len => obtain ⟨z, k, rfl, _⟩ := h; rfl
  case body =>
    obtain ⟨z, k, rfl, hz, hk, q⟩ := h
    have el := len_tl z
    refine ⟨_, (pss_cons (ps_if (PW.pt (pw_or (pt_not (pt_chain op_le op_le pe_int (pe_callB call_lenSN (by rfl) T.z_len (by decide +kernel) (pa_cons (pv 0) pa_nil)) (pv 1))) (pw_or1 (pt_not (pt_val (pe_callB (cr_allK (K := K) rfl rfl) (by rfl) T.z_all (by decide +kernel) (pa_cons (pe_lc (own := [("sign", 2)]) (g := gName 2) (tt := tYes) rfl sc_read_number.nd (pi_str (pv 0)) (blkOk_by (own := [("sign", 2)]) (N := ["part", "digits", "sign"]) (sc := defScope s_read_number) (by decide +kernel)) (fun _ _ _ _ _ => (pg_name (i := 2) sc_read_number.nd rfl (Or.inl rfl))) (fun _ _ _ _ _ => pts_nil) (fun _ _ _ _ _ => (pe_cmpR op_inSN (pv 2) (pe_globE T.c_DIGITS (by rfl)) rfl))) pa_nil)))))))
   (pss_one (ps_ret pe_non))
   pss_nil)
  (pss_cons (ps_if (PW.pt (pw_and (pt_cmpR op_gt (pe_callB call_lenSN (by rfl) T.z_len (by decide +kernel) (pa_cons (pv 0) pa_nil)) pe_int (nomark _)) (pw_and1 (pt_cmpR op_eq (pe_ix ix_str (pv 0) pe_int (fun _ _ => rfl)) pe_str (nomark _)))))
   (pss_one (ps_ret pe_non))
   pss_nil)
  (pss_one (ps_ret (pe_callTy call_intSN (by rfl) T.z_int (by decide +kernel) (pa_cons (pv 0) pa_nil)))))), ?_⟩
    try dsimp only [cxOf, Cx.nox]
    walk_at "go"
    refine w_dec (fun h1 => ?_) (fun h1 => ?_)
    · walk_at "go"
      refine w_ndec (fun h2 => ?_) (fun h2 => ?_)
      rotate_left
      · walk_at "go"
        refine lc_str (fun c => .bl (decide (c ∈ ("0123456789" : Str).cps.toList))) (by omega) (fun c hc H1 e1 R hR => ?_) (fun p H' hp hE hL => ?_)
        · walk_at "go"
          exact hR _ (Evl.Ex.refl _)
        · walk_at "go"
          refine w_ite (fun h3 => ?_) (fun h3 => ?_)
          · walk_at "go"
            have e : numOf k (tl z) = none := by
              unfold numOf
              rw [if_neg]
              rintro ⟨_, _, hd, _⟩
              have h4 : ((tl z).all fun c => decide (c ∈ ("0123456789" : Str).cps.toList)) = true := by
                rw [List.all_eq_true]
                intro c hc
                exact decide_eq_true ((mem_digits c).mpr (hd c hc))
              rw [h4] at h3
              cases h3
            have q1 := q H' hE
            rw [e] at q1
            exact q1
          · have h4 : ∀ c ∈ tl z, 48 ≤ c ∧ c ≤ 57 := fun c hc => by
              have h5 : ((tl z).all fun c => decide (c ∈ ("0123456789" : Str).cps.toList)) = true := by simpa using h3
              exact (mem_digits c).mp (of_decide_eq_true (List.all_eq_true.mp h5 c hc))
            walk_at "go"
            have leaf : ¬ (1 < (tl z).length ∧ (tl z).head? = some 48) → numOf k (tl z) = some ((NumText.digitsVal (tl z) : Nat) : Int) := fun hn => by
              unfold numOf
              rw [if_pos ⟨by omega, by omega, h4, hn⟩]
            have hint : PySem.intText? z = some ((NumText.digitsVal (tl z) : Nat) : Int) := intText_digits h4 (fun e0 => by
              have e1 : (tl z).length = 0 := by
                rw [show tl z = z.cps.toList from rfl, e0]
                rfl
              omega) (by omega)
            refine w_dec (fun h5 => ?_) (fun h5 => ?_)
            · have hlt : 0 < (tl z).length := by omega
              walk_at "go"
              obtain ⟨c, r, ez⟩ : ∃ c r, tl z = c :: r := by
                cases e : tl z with
                | nil => rw [e] at hlt; simp at hlt
                | cons c r => exact ⟨c, r, rfl⟩
              have ec0 : z.cps.toList.getD (Int.toNat 0) 0 = c := by
                rw [show z.cps.toList = c :: r from ez]
                rfl
              rw [ec0]
              refine w_dec (fun h6 => ?_) (fun h6 => ?_)
              · walk_at "go"
                have ec : c = 48 := (by have := congrArg tl h6; exact (List.cons.inj this).1)
                have e : numOf k (tl z) = none := by
                  unfold numOf
                  rw [if_neg]
                  rintro ⟨_, _, _, hn⟩
                  exact hn ⟨by omega, by rw [ez, ec]; rfl⟩
                have q1 := q H' hE
                rw [e] at q1
                exact q1
              · walk_at "go"
                refine g_intS hint (by omega) ?_
                have q1 := q H' hE
                rw [leaf fun ⟨_, hh⟩ => h6 (by rw [ez] at hh; have := Option.some.inj hh; subst this; rfl)] at q1
                exact q1
            · walk_at "go"
              refine g_intS hint (by omega) ?_
              have q1 := q H' hE
              rw [leaf fun ⟨hh, _⟩ => h5 (by omega)] at q1
              exact q1
      · walk_at "go"
        have e : numOf k (tl z) = none := by
          unfold numOf
          rw [if_neg (fun hh => h2 (by omega))]
        have q1 := q H (Evl.Ex.refl _)
        rw [e] at q1
        exact q1
    · walk_at "go"
      have e : numOf k (tl z) = none := by
        unfold numOf
        rw [if_neg (fun hh => h1 (by omega))]
      have q1 := q H (Evl.Ex.refl _)
      rw [e] at q1
      exact q1
theorem ok_is_name (T : Txt P K mg a) : FnOk P w K mg base CX0 1 a.f_is_name a.d_is_name ["text"] (sp_is_name K) := by
  refine T.F_is_name.ok sc_is_name (fun vs H Q E h => ?len) (fun cdv A outer s H vs Q E hr h => ?body)
  case len => obtain ⟨z, rfl, _⟩ := h; rfl
  case body =>
    obtain ⟨z, rfl, hz, q⟩ := h
    refine ⟨_, (pss_one (ps_ret (pe_and (pe_chain op_le op_le pe_int (pe_callB call_lenSN (by rfl) T.z_len (by decide +kernel) (pa_cons (pv 0) pa_nil)) pe_int) (pe_one (pe_callB (cr_allK (K := K) rfl rfl) (by rfl) T.z_all (by decide +kernel) (pa_cons (pe_lc (own := [("letter", 1)]) (g := gName 1) (tt := tYes) rfl sc_is_name.nd (pi_str (pv 0)) (blkOk_by (own := [("letter", 1)]) (N := ["text", "letter"]) (sc := defScope s_is_name) (by decide +kernel)) (fun _ _ _ _ _ => (pg_name (i := 1) sc_is_name.nd rfl (Or.inl rfl))) (fun _ _ _ _ _ => pts_nil) (fun _ _ _ _ _ => (pe_cmpR op_inSN (pv 1) (pe_globE T.c_LETTERS (by rfl)) rfl))) pa_nil)))))), ?_⟩
    try dsimp only [cxOf, Cx.nox]
    walk_at "go"
    refine w_dec (fun h1 => ?_) (fun h1 => ?_)
    · walk_at "go"
      refine w_dec (fun h2 => ?_) (fun h2 => ?_)
      · walk_at "go"
        refine lc_str (fun c => .bl (inLet c)) (by omega) (fun c hc H1 e1 R hR => ?_) (fun p H' hp hE hL => ?_)
        · walk_at "go"
          exact hR _ (Evl.Ex.refl _)
        · walk_at "go"
          have e : isName z = (tl z).all fun c => inLet c := by
            unfold isName
            rw [decide_eq_true h1, decide_eq_true h2, Bool.true_and, Bool.true_and]
          have q1 := q H' hE
          rw [e] at q1
          exact q1
      · walk_at "go"
        have e : isName z = false := by
          unfold isName
          rw [decide_eq_false h2, Bool.and_false, Bool.false_and]
        have q1 := q H (Evl.Ex.refl _)
        rw [e] at q1
        exact q1
    · walk_at "go"
      have e : isName z = false := by
        unfold isName
        rw [decide_eq_false h1, Bool.false_and, Bool.false_and]
      have q1 := q H (Evl.Ex.refl _)
      rw [e] at q1
      exact q1
theorem ok_is_key (T : Txt P K mg a) : FnOk P w K mg base CX0 1 a.f_is_key a.d_is_key ["text"] (sp_is_key K) := by
  refine T.F_is_key.ok sc_is_key (fun vs H Q E h => ?len) (fun cdv A outer s H vs Q E hr h => ?body)
  case len => obtain ⟨z, rfl, _⟩ := h; rfl
  case body =>
    obtain ⟨z, rfl, hz, q⟩ := h
    refine ⟨_, (pss_one (ps_ret (pe_and (pe_chain op_le op_le pe_int (pe_callB call_lenSN (by rfl) T.z_len (by decide +kernel) (pa_cons (pv 0) pa_nil)) pe_int) (pe_one (pe_callB (cr_allK (K := K) rfl rfl) (by rfl) T.z_all (by decide +kernel) (pa_cons (pe_lc (own := [("letter", 1)]) (g := gName 1) (tt := tYes) rfl sc_is_key.nd (pi_str (pv 0)) (blkOk_by (own := [("letter", 1)]) (N := ["text", "letter"]) (sc := defScope s_is_key) (by decide +kernel)) (fun _ _ _ _ _ => (pg_name (i := 1) sc_is_key.nd rfl (Or.inl rfl))) (fun _ _ _ _ _ => pts_nil) (fun _ _ _ _ _ => (pe_or (pe_cmpR op_inSN (pv 1) (pe_globE T.c_LETTERS (by rfl)) rfl) (pe_one (pe_cmpR op_eq (pv 1) pe_str (nomark _)))))) pa_nil)))))), ?_⟩
    try dsimp only [cxOf, Cx.nox]
    walk_at "go"
    refine w_dec (fun h1 => ?_) (fun h1 => ?_)
    · walk_at "go"
      refine w_dec (fun h2 => ?_) (fun h2 => ?_)
      · walk_at "go"
        refine lc_str (fun c => .bl (inLet c || decide (c = 45))) (by omega) (fun c hc H1 e1 R hR => ?_) (fun p H' hp hE hL => ?_)
        · walk_at "go"
          refine w_dec (fun h3 => ?_) (fun h3 => ?_)
          · have r := hR H1 (Evl.Ex.refl _)
            rw [show inLet c = true from decide_eq_true h3] at r
            exact r
          · walk_at "go"
            have r := hR H1 (Evl.Ex.refl _)
            rw [show inLet c = false from decide_eq_false h3, Bool.false_or] at r
            have e : decide ((⟨#[c]⟩ : Str) = ("-" : Str)) = decide (c = 45) := by
              rw [Bool.eq_iff_iff, decide_eq_true_eq, decide_eq_true_eq]
              constructor
              · intro h4
                have := congrArg tl h4
                exact (List.cons.inj this).1
              · rintro rfl; decide +kernel
            rw [e]
            exact r
        · walk_at "go"
          have e : isKey z = (tl z).all fun c => inLet c || decide (c = 45) := by
            unfold isKey
            rw [decide_eq_true h1, decide_eq_true h2, Bool.true_and, Bool.true_and]
          have q1 := q H' hE
          rw [e] at q1
          exact q1
      · walk_at "go"
        have e : isKey z = false := by
          unfold isKey
          rw [decide_eq_false h2, Bool.and_false, Bool.false_and]
        have q1 := q H (Evl.Ex.refl _)
        rw [e] at q1
        exact q1
    · walk_at "go"
      have e : isKey z = false := by
        unfold isKey
        rw [decide_eq_false h1, Bool.false_and, Bool.false_and]
      have q1 := q H (Evl.Ex.refl _)
      rw [e] at q1
      exact q1
theorem ok_is_entry (T : Txt P K mg a) : FnOk P w K mg base CX0 2 a.f_is_entry a.d_is_entry ["entry"] (sp_is_entry K) := by
  refine T.F_is_entry.ok sc_is_entry (fun vs H Q E h => ?len) (fun cdv A outer s H vs Q E hr h => ?body)
  case len => obtain ⟨p, e, rfl, _⟩ := h; rfl
  case body =>
    obtain ⟨p, e, rfl, hS, hz, q⟩ := h
    refine ⟨_, (pss_cons (ps_setLc (i := 1) (own := [("part", 2)]) (g := gName 2) (tt := tYes) rfl sc_is_entry.nd rfl rfl (sw_true rfl rfl rfl (by decide +kernel)) (pi_tupK (K := K) rfl (pv 0)) (blkOk_by (own := [("part", 2)]) (N := ["entry", "texts", "part"]) (sc := defScope s_is_entry) (by decide +kernel)) (fun _ _ _ _ _ => (pg_name (i := 2) sc_is_entry.nd rfl (Or.inl rfl))) (fun _ _ _ _ _ => pts_nil) (fun _ _ _ _ _ => (pe_callB (call_instK (K := K) rfl) (by rfl) T.z_isinstance (by decide +kernel) (pa_cons (pv 2) (pa_cons (pe_bltn (v := .ty "str") (by rfl) T.z_str (by decide +kernel) rfl) pa_nil)))))
  (pss_cons (ps_if (PW.pt (pw_and (pt_cmpR (op_eqDK (K := K) rfl hr.units) (pe_slice (sl_tupK (K := K) rfl) (pv 0) po_none (po_some pe_int)) (pe_tup (pa_cons pe_str pa_nil)) (nomark _)) (pw_and1 (pt_cmpR (op_eqDK (K := K) rfl hr.units) (pv 1) (pe_lst (pa_cons pe_bl (pa_cons pe_bl (pa_cons pe_bl (pa_cons pe_bl (pa_cons pe_bl pa_nil)))))) (nomark _)))))
   (pss_one (ps_ret (pe_and (pe_call (ok_is_key T) (hr.mono (by decide)) (by rfl) T.g_is_key T.F_is_key.kp T.b_is_key .nil pass0 (pa_cons (pe_ix (ix_tupK (K := K) rfl) (pv 0) pe_int (fun _ _ => rfl)) pa_nil)) (pe_and (pe_call (ok_is_name T) (hr.mono (by decide)) (by rfl) T.g_is_name T.F_is_name.kp T.b_is_name .nil pass0 (pa_cons (pe_ix (ix_tupK (K := K) rfl) (pv 0) pe_int (fun _ _ => rfl)) pa_nil)) (pe_and (pe_chain op_le op_le pe_int (pe_ix (ix_tupK (K := K) rfl) (pv 0) pe_int (fun _ _ => rfl)) pe_int) (pe_one (pe_chain op_le op_le pe_int (pe_ix (ix_tupK (K := K) rfl) (pv 0) pe_int (fun _ _ => rfl)) (pe_globE T.c_MOST_MOMENT (by rfl)))))))))
   pss_nil)
  (pss_cons (ps_if (PW.pt (pw_or (pt_cmpR (op_neDK (K := K) rfl hr.units) (pe_slice (sl_tupK (K := K) rfl) (pv 0) po_none (po_some pe_int)) (pe_tup (pa_cons pe_str pa_nil)) (nomark _)) (pw_or1 (pt_cmpR (op_neDK (K := K) rfl hr.units) (pv 1) (pe_lst (pa_cons pe_bl (pa_cons pe_bl (pa_cons pe_bl pa_nil)))) (nomark _)))))
   (pss_one (ps_ret pe_bl))
   pss_nil)
  (pss_one (ps_ret (pe_and (pe_call (ok_is_key T) (hr.mono (by decide)) (by rfl) T.g_is_key T.F_is_key.kp T.b_is_key .nil pass0 (pa_cons (pe_ix (ix_tupK (K := K) rfl) (pv 0) pe_int (fun _ _ => rfl)) pa_nil)) (pe_one (pe_chain op_le op_le pe_int (pe_ix (ix_tupK (K := K) rfl) (pv 0) pe_int (fun _ _ => rfl)) (pe_globE T.c_MOST_MOMENT (by rfl)))))))))), ?_⟩
    try dsimp only [cxOf, Cx.nox]
    cases e with
    | ask k g c m =>
      have hk := hz k (.tail _ (.head _))
      have hg := hz g (.tail _ (.tail _ (.head _)))
      walk_at "go"
      refine lc_tup (fun v => .bl (match v with | .str _ => true | _ => false)) hS (Nat.le_trans (Ent.vs_len _) (by decide)) (fun v hv H1 e1 R hR => ?_) (fun p1 H1 hp1 hE1 hL1 => ?_)
      · simp only [Ent.vs, List.mem_cons, List.not_mem_nil, or_false] at hv
        rcases hv with rfl | rfl | rfl | rfl | rfl <;> walk_at "go" <;> exact hR _ (Evl.Ex.refl _)
      · have hL : SqL K H1 p1 [.bl true, .bl true, .bl true, .bl false, .bl false] := .inl (.inl hL1)
        have hS1 : SqT K H1 p [.str "ask", .str k, .str g, .int c, .int m] := ex_sqT hE1 hS
        walk_at "go"
        refine g_eqD (.tuple [.str "ask"]) (.tuple [.str "ask"]) true (by walk_at "dp") (by walk_at "dp") (by decide +kernel) (by decide +kernel) (by decide +kernel) ?_
        walk_at "go"
        refine g_eqD (.list [.bool true, .bool true, .bool true, .bool false, .bool false]) (.list [.bool true, .bool true, .bool true, .bool false, .bool false]) true (by walk_at "dp") (by walk_at "dp") (by decide +kernel) (by decide +kernel) (by decide +kernel) ?_
        walk_at "go"
        refine ⟨k, rfl, hk, fun H2 hE2 => ?_⟩
        walk_at "go"
        refine w_ite (fun h1 => ?_) (fun h1 => ?_)
        · walk_at "go"
          refine ⟨g, rfl, hg, fun H3 hE3 => ?_⟩
          walk_at "go"
          refine w_ite (fun h2 => ?_) (fun h2 => ?_)
          · walk_at "go"
            refine w_dec (fun h3 => ?_) (fun h3 => ?_)
            · walk_at "go"
              refine w_dec (fun h4 => ?_) (fun h4 => ?_)
              · walk_at "go"
                refine w_dec (fun h5 => ?_) (fun h5 => ?_)
                · walk_at "go"
                  exact q_of q (by walk_at "ex") (by simp [Ent.ok, h1, h2, h3, h4, h5])
                · walk_at "go"
                  exact q_of q (by walk_at "ex") (by simp [Ent.ok, h1, h2, h3, h4, h5])
              · walk_at "go"
                exact q_of q (by walk_at "ex") (by simp [Ent.ok, h1, h2, h3, h4])
            · walk_at "go"
              exact q_of q (by walk_at "ex") (by simp [Ent.ok, h1, h2, h3])
          · walk_at "go"
            exact q_of q (by walk_at "ex") (by simp [Ent.ok, h1, h2])
        · walk_at "go"
          exact q_of q (by walk_at "ex") (by simp [Ent.ok, h1])
    | rel k m =>
      have hk := hz k (.tail _ (.head _))
      walk_at "go"
      refine lc_tup (fun v => .bl (match v with | .str _ => true | _ => false)) hS (Nat.le_trans (Ent.vs_len _) (by decide)) (fun v hv H1 e1 R hR => ?_) (fun p1 H1 hp1 hE1 hL1 => ?_)
      · simp only [Ent.vs, List.mem_cons, List.not_mem_nil, or_false] at hv
        rcases hv with rfl | rfl | rfl <;> walk_at "go" <;> exact hR _ (Evl.Ex.refl _)
      · have hL : SqL K H1 p1 [.bl true, .bl true, .bl false] := .inl (.inl hL1)
        have hS1 : SqT K H1 p [.str "release", .str k, .int m] := ex_sqT hE1 hS
        walk_at "go"
        refine g_eqD (.tuple [.str "release"]) (.tuple [.str "ask"]) false (by walk_at "dp") (by walk_at "dp") (by decide +kernel) (by decide +kernel) (by decide +kernel) ?_
        walk_at "go"
        refine g_neD (.tuple [.str "release"]) (.tuple [.str "release"]) false (by walk_at "dp") (by walk_at "dp") (by decide +kernel) (by decide +kernel) (by decide +kernel) ?_
        walk_at "go"
        refine g_neD (.list [.bool true, .bool true, .bool false]) (.list [.bool true, .bool true, .bool false]) false (by walk_at "dp") (by walk_at "dp") (by decide +kernel) (by decide +kernel) (by decide +kernel) ?_
        walk_at "go"
        refine ⟨k, rfl, hk, fun H2 hE2 => ?_⟩
        walk_at "go"
        refine w_ite (fun h1 => ?_) (fun h1 => ?_)
        · walk_at "go"
          refine w_dec (fun h2 => ?_) (fun h2 => ?_)
          · walk_at "go"
            exact q_of q (by walk_at "ex") (by simp [Ent.ok, h1, h2])
          · walk_at "go"
            exact q_of q (by walk_at "ex") (by simp [Ent.ok, h1, h2])
        · walk_at "go"
          exact q_of q (by walk_at "ex") (by simp [Ent.ok, h1])
theorem ok_read_entry (T : Txt P K mg a) : FnOk P w K mg base CX0 2 a.f_read_entry a.d_read_entry ["line"] (sp_read_entry K) := by
  refine T.F_read_entry.ok sc_read_entry (fun vs H Q E h => ?len) (fun cdv A outer s H vs Q E hr h => ?body)
  case len => obtain ⟨z, rfl, _⟩ := h; rfl
  case body =>
    obtain ⟨z, rfl, hz, q0, q1⟩ := h
    refine ⟨_, (pss_cons (ps_set (i := 1) sc_read_entry.nd rfl (Or.inl rfl) (pe_bmK (K := K) rfl PySem.F.plainAttrs_str PySem.F.slot_str_split PySem.F.type_str_split mt_splitN (pv 0) (pa_cons pe_str pa_nil)))
  (pss_cons (ps_if (PW.pt (pw_and (pt_cmpR op_eq (pe_callB (call_lenK (K := K) rfl) (by rfl) T.z_len (by decide +kernel) (pa_cons (pv 1) pa_nil)) pe_int (nomark _)) (pw_and1 (pt_cmpR op_eq (pe_ix (ix_listK (K := K) rfl) (pv 1) pe_int (fun _ _ => rfl)) pe_str (nomark _)))))
   (pss_cons (ps_set (i := 2) sc_read_entry.nd rfl (Or.inl rfl) (pe_call (ok_read_number T) (hr.mono (by decide)) (by rfl) T.g_read_number T.F_read_number.kp T.b_read_number .nil pass0 (pa_cons (pe_ix (ix_listK (K := K) rfl) (pv 1) pe_int (fun _ _ => rfl)) (pa_cons pe_int pa_nil))))
  (pss_cons (ps_set (i := 3) sc_read_entry.nd rfl (Or.inl rfl) (pe_call (ok_read_number T) (hr.mono (by decide)) (by rfl) T.g_read_number T.F_read_number.kp T.b_read_number .nil pass0 (pa_cons (pe_ix (ix_listK (K := K) rfl) (pv 1) pe_int (fun _ _ => rfl)) (pa_cons pe_int pa_nil))))
  (pss_cons (ps_if (PW.pt (pw_or (pt_cmpR op_isNN (pv 2) pe_non (nomark _)) (pw_or1 (pt_cmpR op_isNN (pv 3) pe_non (nomark _)))))
   (pss_one (ps_ret pe_non))
   pss_nil)
  (pss_one (ps_ret (pe_tup (pa_cons pe_str (pa_cons (pe_ix (ix_listK (K := K) rfl) (pv 1) pe_int (fun _ _ => rfl)) (pa_cons (pe_ix (ix_listK (K := K) rfl) (pv 1) pe_int (fun _ _ => rfl)) (pa_cons (pv 2) (pa_cons (pv 3) pa_nil)))))))))))
   pss_nil)
  (pss_cons (ps_if (PW.pt (pw_and (pt_cmpR op_eq (pe_callB (call_lenK (K := K) rfl) (by rfl) T.z_len (by decide +kernel) (pa_cons (pv 1) pa_nil)) pe_int (nomark _)) (pw_and1 (pt_cmpR op_eq (pe_ix (ix_listK (K := K) rfl) (pv 1) pe_int (fun _ _ => rfl)) pe_str (nomark _)))))
   (pss_cons (ps_set (i := 3) sc_read_entry.nd rfl (Or.inl rfl) (pe_call (ok_read_number T) (hr.mono (by decide)) (by rfl) T.g_read_number T.F_read_number.kp T.b_read_number .nil pass0 (pa_cons (pe_ix (ix_listK (K := K) rfl) (pv 1) pe_int (fun _ _ => rfl)) (pa_cons pe_int pa_nil))))
  (pss_one (ps_if (pt_cmpR op_notNN (pv 3) pe_non (nomark _))
   (pss_one (ps_ret (pe_tup (pa_cons pe_str (pa_cons (pe_ix (ix_listK (K := K) rfl) (pv 1) pe_int (fun _ _ => rfl)) (pa_cons (pv 3) pa_nil))))))
   pss_nil)))
   pss_nil)
  (pss_one (ps_ret pe_non))))), ?_⟩
    try dsimp only [cxOf, Cx.nox]
    walk_at "go"
    rename_i p hp
    have hle := split_le z " "
    have hrd : readEnt z = entOf ((Txt.split z " ").map tl) := rfl
    generalize Txt.split z " " = ps at *
    have none_out : ∀ H', Ex H H' → readEnt z = none → Q .non H' := fun H' e h => q0 h H' e
    refine w_dec (fun h5 => ?_) (fun h5 => ?_)
    · obtain ⟨a1, a2, a3, a4, a5, rfl⟩ : ∃ a1 a2 a3 a4 a5, ps = [a1, a2, a3, a4, a5] := by
        rw [List.length_map] at h5
        match ps, h5 with
        | [a1, a2, a3, a4, a5], _ => exact ⟨a1, a2, a3, a4, a5, rfl⟩
      have l4 := hle a4 (by simp)
      have l5 := hle a5 (by simp)
      have hS0 : SqL K (upd H p (.lst ([a1, a2, a3, a4, a5].map V.str))) p [.str a1, .str a2, .str a3, .str a4, .str a5] := .inl (.inl upd_same)
      have hX0 : Ex H (upd H p (.lst ([a1, a2, a3, a4, a5].map V.str))) := Evl.Ex.new hp
      generalize upd H p (.lst ([a1, a2, a3, a4, a5].map V.str)) = H0 at *
      walk_at "go"
      refine w_dec (fun h6 => ?_) (fun h6 => ?_)
      · subst h6
        walk_at "go"
        refine ⟨a4, 4, rfl, by omega, by decide, fun H1 hE1 => ?_⟩
        walk_at "go"
        refine ⟨a5, 10, rfl, by omega, by decide, fun H2 hE2 => ?_⟩
        have hS2 : SqL K H2 p [.str "ask", .str a2, .str a3, .str a4, .str a5] := by walk_at "sq"
        have hX2 : Ex H H2 := by walk_at "ex"
        have hrd2 : readEnt z = match numOf 4 (tl a4), numOf 10 (tl a5) with | some c, some m => some (.ask a2 a3 c m) | _, _ => none := by
          rw [hrd]
          simp only [List.map_cons, List.map_nil, entOf, stxt_tl, ↓reduceIte]
          all_goals (cases numOf 4 (tl a4) <;> cases numOf 10 (tl a5) <;> rfl)
        cases hc : numOf 4 (tl a4) with
        | none =>
          dsimp only [oI]
          walk_at "go"
          exact none_out _ (by walk_at "ex") (by rw [hrd2, hc])
        | some c =>
          cases hm : numOf 10 (tl a5) with
          | none =>
            dsimp only [oI]
            walk_at "go"
            exact none_out _ (by walk_at "ex") (by rw [hrd2, hc, hm])
          | some m =>
            dsimp only [oI]
            walk_at "go"
            rename_i p3 hp3
            exact q1 (.ask a2 a3 c m) (by rw [hrd2, hc, hm]) p3 _ (ex_free hX2 hp3) (by walk_at "ex") upd_same
      · walk_at "go"
        refine w_dec (fun h7 => by simp at h7) (fun h7 => ?_)
        walk_at "go"
        exact none_out _ (by walk_at "ex") (by
          rw [hrd]
          simp only [List.map_cons, List.map_nil, entOf, stxt_tl, if_neg h6])
    · walk_at "go"
      refine w_dec (fun h6 => ?_) (fun h6 => ?_)
      · obtain ⟨a1, a2, a3, rfl⟩ : ∃ a1 a2 a3, ps = [a1, a2, a3] := by
          rw [List.length_map] at h6
          match ps, h6 with
          | [a1, a2, a3], _ => exact ⟨a1, a2, a3, rfl⟩
        have l3 := hle a3 (by simp)
        have hS0 : SqL K (upd H p (.lst ([a1, a2, a3].map V.str))) p [.str a1, .str a2, .str a3] := .inl (.inl upd_same)
        have hX0 : Ex H (upd H p (.lst ([a1, a2, a3].map V.str))) := Evl.Ex.new hp
        generalize upd H p (.lst ([a1, a2, a3].map V.str)) = H0 at *
        walk_at "go"
        refine w_dec (fun h7 => ?_) (fun h7 => ?_)
        · subst h7
          walk_at "go"
          refine ⟨a3, 10, rfl, by omega, by decide, fun H1 hE1 => ?_⟩
          have hrd2 : readEnt z = match numOf 10 (tl a3) with | some m => some (.rel a2 m) | none => none := by
            rw [hrd]
            simp only [List.map_cons, List.map_nil, entOf, stxt_tl, ↓reduceIte]
            all_goals (cases numOf 10 (tl a3) <;> rfl)
          cases hm : numOf 10 (tl a3) with
          | none =>
            dsimp only [oI]
            walk_at "go"
            exact none_out _ (by walk_at "ex") (by rw [hrd2, hm])
          | some m =>
            dsimp only [oI]
            walk_at "go"
            rename_i p3 hp3
            exact q1 (.rel a2 m) (by rw [hrd2, hm]) p3 _ (ex_free (show Ex H H1 by walk_at "ex") hp3) (by walk_at "ex") upd_same
        · walk_at "go"
          exact none_out _ (by walk_at "ex") (by
            rw [hrd]
            simp only [List.map_cons, List.map_nil, entOf, stxt_tl, if_neg h7])
      · walk_at "go"
        exact none_out _ (by walk_at "ex") (by
          rw [hrd]
          rw [List.length_map] at h5 h6
          match ps, h5, h6 with
          | [], _, _ => rfl
          | [_], _, _ => rfl
          | [_, _], _, _ => rfl
          | [_, _, _], _, h => exact absurd rfl h
          | [_, _, _, _], _, _ => rfl
          | [_, _, _, _, _], h, _ => exact absurd rfl h
          | _ :: _ :: _ :: _ :: _ :: _ :: _, _, _ => rfl)
theorem ok_ascends (T : Txt P K mg a) : FnOk P w K mg base CX0 1 a.f_ascends a.d_ascends ["names"] (sp_ascends K) := by
  refine T.F_ascends.ok sc_ascends (fun vs H Q E h => ?len) (fun cdv A outer s H vs Q E hr h => ?body)
  case len => obtain ⟨p, zs, rfl, _⟩ := h; rfl
  case body =>
    obtain ⟨p, zs, rfl, hS, hz, q⟩ := h
    refine ⟨_, (pss_one (ps_ret (pe_callB (cr_allK (K := K) rfl rfl) (by rfl) T.z_all (by decide +kernel) (pa_cons (pe_lc (own := [("k", 1)]) (g := gName 1) (tt := tYes) rfl sc_ascends.nd (pi_range1 (by rfl) T.z_range (pa_cons (pe_op op_sub (pe_callB (call_lenK (K := K) rfl) (by rfl) T.z_len (by decide +kernel) (pa_cons (pv 0) pa_nil)) pe_int) pa_nil)) (blkOk_by (own := [("k", 1)]) (N := ["names", "k"]) (sc := defScope s_ascends) (by decide +kernel)) (fun _ _ _ _ _ => (pg_name (i := 1) sc_ascends.nd rfl (Or.inl rfl))) (fun _ _ _ _ _ => pts_nil) (fun _ _ _ _ _ => (pe_cmpR op_lt_strN (pe_ix (ix_seqK (K := K) rfl) (pv 0) (pv 1) (fun _ _ => rfl)) (pe_ix (ix_seqK (K := K) rfl) (pv 0) (pe_op op_add (pv 1) pe_int) (fun _ _ => rfl)) (nomark _)))) pa_nil)))), ?_⟩
    try dsimp only [cxOf, Cx.nox]
    walk_at "go"
    refine g_lenQ hS ?_
    have hlm : (zs.map V.str).length = zs.length := List.length_map ..
    rw [hlm]
    walk_at "go"
    have et : ((zs.length : Int) - 1).toNat = zs.length - 1 := by omega
    rw [et]
    refine lc_rng (fun (i : Nat) => .bl (decide ((zs.getD i Str.empty).cps.toList < (zs.getD (i + 1) Str.empty).cps.toList))) (by omega) (fun i hi H1 e1 R hR => ?_) (fun p' H' hp hE hL => ?_)
    · have hS1 := hS.mono e1
      walk_at "go"
      refine g_ixQ hS1 (at_strs2 (by omega)) ?_
      walk_at "go"
      refine g_ixQ hS1 (at_strs2 (i := i + 1) (by omega)) ?_
      walk_at "go"
      exact hR _ (Evl.Ex.refl _)
    · walk_at "go"
      exact q H' hE
theorem ok_number_or_none (T : Txt P K mg a) : FnOk P w K mg base CX0 1 a.f_number_or_none a.d_number_or_none ["number"] (sp_number_or_none K) := by
  refine T.F_number_or_none.ok sc_number_or_none (fun vs H Q E h => ?len) (fun cdv A outer s H vs Q E hr h => ?body)
  case len => obtain ⟨e, rfl, _⟩ := h; rfl
  case body =>
    obtain ⟨e, rfl, he, q⟩ := h
    refine ⟨_, (pss_one (ps_ret (pe_ifExp (pt_cmpR op_isNN (pv 0) pe_non (nomark _)) (pe_globE T.c_NONE (by rfl)) (pe_callTy call_strV (by rfl) T.z_str (by decide +kernel) (pa_cons (pv 0) pa_nil))))), ?_⟩
    try dsimp only [cxOf, Cx.nox]
    cases e with
    | none =>
      rw [oN_none]
      walk_at "go"
      exact q _ (Evl.Ex.refl _)
    | some i =>
      have hi := he i rfl
      rw [oN_some]
      walk_at "go"
      refine .inl ⟨i, rfl, log_small (by have := hi.1; have := hi.2; omega), ?_⟩
      exact q _ (Evl.Ex.refl _)
theorem ok_view_words (T : Txt P K mg a) : FnOk P w K mg base CX0 2 a.f_view_words a.d_view_words ["view"] (sp_view_words K) := by
  refine T.F_view_words.ok sc_view_words (fun vs H Q E h => ?len) (fun cdv A outer s H vs Q E hr h => ?body)
  case len => obtain ⟨p, v, rfl, _⟩ := h; rfl
  case body =>
    obtain ⟨p, v, rfl, hV, hok, q⟩ := h
    obtain ⟨ph, h1, h2⟩ := id hV
    have hn0 : 0 ≤ v.n := hok.n.1
    have hn1 : v.n < 10000000000000 := hok.n.2
    have hl := hok.l
    refine ⟨_, (pss_cons (ps_asg (pv 0) (pg_tupK (K := K) rfl rfl (pgs_cons (pg_name (i := 1) sc_view_words.nd rfl (Or.inl rfl)) (pgs_cons (pg_name (i := 2) sc_view_words.nd rfl (Or.inl rfl)) (pgs_cons (pg_name (i := 3) sc_view_words.nd rfl (Or.inl rfl)) pgs_nil)))))
  (pss_one (ps_ret (pe_op op_cat (pe_lst (pa_cons (pe_callTy call_strIN (by rfl) T.z_str (by decide +kernel) (pa_cons (pv 1) pa_nil)) (pa_cons (pe_call (ok_number_or_none T) (hr.mono (by decide)) (by rfl) T.g_number_or_none T.F_number_or_none.kp T.b_number_or_none .nil pass0 (pa_cons (pv 2) pa_nil)) pa_nil))) (pe_callTy (call_listK (K := K) rfl) (by rfl) T.z_list (by decide +kernel) (pa_cons (pv 3) pa_nil)))))), ?_⟩
    try dsimp only [cxOf, Cx.nox]
    walk_at "go"
    refine ⟨v.d, rfl, hok.d, fun H1 hE1 => ?_⟩
    walk_at "go"
    rename_i p1 hp1 p2 hp2 p3 hp3
    exact q _ _ (ex_free (show Ex H _ by walk_at "ex") hp3) (by walk_at "ex") upd_same
theorem ok_view_body (T : Txt P K mg a) : FnOk P w K mg base CX0 3 a.f_view_body a.d_view_body ["view"] (sp_view_body K) := by
  refine T.F_view_body.ok sc_view_body (fun vs H Q E h => ?len) (fun cdv A outer s H vs Q E hr h => ?body)
  case len => obtain ⟨p, v, rfl, _⟩ := h; rfl
  case body =>
    obtain ⟨p, v, rfl, hV, hok, q⟩ := h
    have hl := vwW_len hok
    refine ⟨_, (pss_one (ps_ret (pe_bmK (K := K) rfl PySem.F.plainAttrs_str PySem.F.slot_str_join PySem.F.type_str_join (mt_joinK (K := K) rfl) pe_str (pa_cons (pe_op op_cat (pe_lst (pa_cons pe_str pa_nil)) (pe_call (ok_view_words T) (hr.mono (by decide)) (by rfl) T.g_view_words T.F_view_words.kp T.b_view_words .nil pass0 (pa_cons (pv 0) pa_nil))) pa_nil)))), ?_⟩
    try dsimp only [cxOf, Cx.nox]
    walk_at "go"
    rename_i p1 hp1
    refine ⟨p, v, rfl, hV.mono (Evl.Ex.new hp1), hok, fun p2 H2 hp2 hE2 hA2 => ?_⟩
    have hE : Ex H H2 := by walk_at "ex"
    have h12 := hE2 _ _ (show upd H p1 (.lst [V.str "view"]) p1 = some (.lst [V.str "view"]) from upd_same)
    have hm : ((vwW v).map V.str).length ≤ 102 := by rw [List.length_map]; exact hl.1
    clear hp1 hE2
    walk_at "go"
    rename_i p3 hp3
    have e : ([V.str "view"] ++ (vwW v).map V.str) = ((("view" : Str) :: vwW v).map V.str) := rfl
    rw [e]
    refine g_join (.inl (.inl upd_same)) (join_ok (by rw [List.length_cons]; omega) fun z hz => ?_) ?_
    · rcases List.mem_cons.mp hz with rfl | hz
      · decide +kernel
      · have := hl.2 z hz; omega
    · exact q _ (by walk_at "ex")
theorem ok_word_of (T : Txt P K mg a) : FnOk P w K mg base CX0 1 a.f_word_of a.d_word_of ["row"] (sp_word_of K) := by
  refine T.F_word_of.ok sc_word_of (fun vs H Q E h => ?len) (fun cdv A outer s H vs Q E hr h => ?body)
  case len => obtain ⟨p, r, rfl, _⟩ := h; rfl
  case body =>
    obtain ⟨p, r, rfl, hV, q⟩ := h
    obtain ⟨pl, h1, h2⟩ := id hV
    unfold wdOf at q
    refine ⟨_, (pss_cons (ps_if (pt_cmpR op_gt (pe_callB (call_lenK (K := K) rfl) (by rfl) T.z_len (by decide +kernel) (pa_cons (pe_ix (ix_tupK (K := K) rfl) (pv 0) pe_int (fun _ _ => rfl)) pa_nil)) pe_int (nomark _))
   (pss_one (ps_ret pe_str))
   pss_nil)
  (pss_one (ps_ret (pe_ifExp (pt_val (pe_ix (ix_tupK (K := K) rfl) (pv 0) pe_int (fun _ _ => rfl))) pe_str pe_str)))), ?_⟩
    try dsimp only [cxOf, Cx.nox]
    walk_at "go"
    rw [List.length_map]
    refine w_dec (fun h3 => ?_) (fun h3 => ?_)
    · walk_at "go"
      rw [if_pos (by omega)] at q
      exact q
    · rw [if_neg (by omega)] at q
      walk_at "go"
      refine w_ite (fun h4 => ?_) (fun h4 => ?_)
      · walk_at "go"
        rw [if_pos h4] at q
        exact q
      · walk_at "go"
        rw [if_neg (by rw [h4]; exact Bool.false_ne_true)] at q
        exact q
theorem ok_head_body (T : Txt P K mg a) : FnOk P w K mg base CX0 3 a.f_head_body a.d_head_body ["many", "entries", "moment", "view"] (sp_head_body K) := by
  refine T.F_head_body.ok sc_head_body (fun vs H Q E h => ?len) (fun cdv A outer s H vs Q E hr h => ?body)
  case len => obtain ⟨m, e, mo, x, v, rfl, _⟩ := h; rfl
  case body =>
    obtain ⟨m, e, mo, x, v, rfl, hV, hm, he, hmo, hv, q⟩ := h
    have hm0 : 0 ≤ m := hm.1
    have hm1 : m < 10000000000000 := hm.2
    have he0 : 0 ≤ e := he.1
    have he1 : e < 10000000000000 := he.2
    have l1 := small_len hm
    have l2 := small_len he
    have l3 := numW_len hmo
    refine ⟨_, (pss_cons (ps_set (i := 4) sc_head_body.nd rfl (Or.inl rfl) (pe_lst (pa_cons pe_str (pa_cons (pe_callTy call_strIN (by rfl) T.z_str (by decide +kernel) (pa_cons (pv 0) pa_nil)) (pa_cons (pe_callTy call_strIN (by rfl) T.z_str (by decide +kernel) (pa_cons (pv 1) pa_nil)) (pa_cons (pe_call (ok_number_or_none T) (hr.mono (by decide)) (by rfl) T.g_number_or_none T.F_number_or_none.kp T.b_number_or_none .nil pass0 (pa_cons (pv 2) pa_nil)) pa_nil))))))
  (pss_cons (ps_if (pt_cmpR op_notNN (pv 3) pe_non (nomark _))
   (pss_one (ps_set (i := 4) sc_head_body.nd rfl (Or.inl rfl) (pe_op op_cat (pv 4) (pe_call (ok_view_words T) (hr.mono (by decide)) (by rfl) T.g_view_words T.F_view_words.kp T.b_view_words .nil pass0 (pa_cons (pv 3) pa_nil)))))
   pss_nil)
  (pss_one (ps_ret (pe_bmK (K := K) rfl PySem.F.plainAttrs_str PySem.F.slot_str_join PySem.F.type_str_join (mt_joinK (K := K) rfl) pe_str (pa_cons (pv 4) pa_nil)))))), ?_⟩
    try dsimp only [cxOf, Cx.nox]
    walk_at "go"
    refine ⟨mo, rfl, hmo, fun H1 hE1 => ?_⟩
    walk_at "go"
    rename_i p1 hp1
    have hV1 := hV.mono (hE1.trans (Evl.Ex.new hp1 (o := .lst [V.str "keep", V.str (toString m), V.str (toString e), V.str (numW mo)])))
    have hA1 : (upd H1 p1 (.lst [V.str "keep", V.str (toString m), V.str (toString e), V.str (numW mo)])) p1 = some (.lst [V.str "keep", V.str (toString m), V.str (toString e), V.str (numW mo)]) := upd_same
    have hE2 := hE1.trans (Evl.Ex.new hp1 (o := .lst [V.str "keep", V.str (toString m), V.str (toString e), V.str (numW mo)]))
    generalize upd H1 p1 (.lst [V.str "keep", V.str (toString m), V.str (toString e), V.str (numW mo)]) = H2 at *
    clear hp1 hE1
    have hkeep : (("keep" : Str).length ≤ 16000) := by decide +kernel
    cases v with
    | none =>
      rw [show x = .non from hV1]
      refine w_ndec (fun h => absurd rfl h) (fun _ => ?_)
      walk_at "go"
      have e4 : [V.str "keep", V.str (toString m), V.str (toString e), V.str (numW mo)] = (hdW m e mo none).map V.str := rfl
      rw [e4] at hA1
      refine g_join (.inl (.inl hA1)) (join_ok (by show 4 ≤ 300; omega) fun z hz => ?_) ?_
      · have hz : z ∈ [("keep" : Str), (toString m : Str), (toString e : Str), numW mo] := hz
        simp only [List.mem_cons, List.not_mem_nil, or_false] at hz
        rcases hz with rfl | rfl | rfl | rfl <;> omega
      · exact q _ hE2
    | some u =>
      obtain ⟨pv, ex, hv1⟩ := hV1
      rw [ex]
      have hu := hv u rfl
      have hl := vwW_len hu
      have hml : ((vwW u).map V.str).length ≤ 102 := by rw [List.length_map]; exact hl.1
      refine w_ndec (fun _ => ?_) (fun h => nomatch h)
      walk_at "go"
      refine ⟨pv, u, rfl, hv1, hu, fun p2 H3 hp2 hE3 hA3 => ?_⟩
      have hA2 := hE3 _ _ hA1
      clear hA1
      walk_at "go"
      rename_i p4 hp4
      have e4 : [V.str "keep", V.str (toString m), V.str (toString e), V.str (numW mo)] ++ (vwW u).map V.str = (hdW m e mo (some u)).map V.str := rfl
      rw [e4]
      refine g_join (.inl (.inl upd_same)) (join_ok (by show (vwW u).length + 4 ≤ 300; omega) fun z hz => ?_) ?_
      · have hz : z ∈ [("keep" : Str), (toString m : Str), (toString e : Str), numW mo] ++ vwW u := hz
        rcases List.mem_append.mp hz with hz | hz
        · simp only [List.mem_cons, List.not_mem_nil, or_false] at hz
          rcases hz with rfl | rfl | rfl | rfl <;> omega
        · have := hl.2 z hz; omega
      · exact q _ (by walk_at "ex")
theorem ok_row_body (T : Txt P K mg a) : FnOk P w K mg base CX0 2 a.f_row_body a.d_row_body ["row"] (sp_row_body K) := by
  refine T.F_row_body.ok sc_row_body (fun vs H Q E h => ?len) (fun cdv A outer s H vs Q E hr h => ?body)
  case len => obtain ⟨p, r, rfl, _⟩ := h; rfl
  case body =>
    obtain ⟨p, r, rfl, hV, hok, q⟩ := h
    obtain ⟨pl, h1, h2⟩ := id hV
    have hc0 : 0 ≤ r.c := hok.c.1
    have hc1 : r.c < 10000000000000 := hok.c.2
    have hm0 : 0 ≤ r.m := hok.m.1
    have hm1 : r.m < 10000000000000 := hok.m.2
    have l1 := small_len hok.c
    have l2 := small_len hok.m
    have l3 := soonW_len hok.e
    have l4 := hok.k
    have l5 := hok.g
    have l6 := hok.l
    have lw : (wdOf r).length ≤ 16000 := by
      unfold wdOf
      split
      · decide +kernel
      · split <;> decide +kernel
    have lk : ("key" : Str).length ≤ 16000 := by decide +kernel
    have hfst : ∀ z ∈ [("key" : Str), r.k, r.g, (toString r.c : Str), (toString r.m : Str), wdOf r], z.length ≤ 16000 := fun z hz => by
      simp only [List.mem_cons, List.not_mem_nil, or_false] at hz
      rcases hz with rfl | rfl | rfl | rfl | rfl | rfl <;> omega
    refine ⟨_, (pss_cons (ps_asg (pv 0) (pg_tupK (K := K) rfl rfl (pgs_cons (pg_name (i := 1) sc_row_body.nd rfl (Or.inl rfl)) (pgs_cons (pg_name (i := 2) sc_row_body.nd rfl (Or.inl rfl)) (pgs_cons (pg_name (i := 3) sc_row_body.nd rfl (Or.inl rfl)) (pgs_cons (pg_name (i := 4) sc_row_body.nd rfl (Or.inl rfl)) (pgs_cons (pg_name (i := 5) sc_row_body.nd rfl (Or.inl rfl)) (pgs_cons (pg_name (i := 6) sc_row_body.nd rfl (Or.inl rfl)) (pgs_cons (pg_name (i := 7) sc_row_body.nd rfl (Or.inl rfl)) pgs_nil)))))))))
  (pss_cons (ps_set (i := 8) sc_row_body.nd rfl (Or.inl rfl) (pe_lst (pa_cons pe_str (pa_cons (pv 1) (pa_cons (pv 2) (pa_cons (pe_callTy call_strIN (by rfl) T.z_str (by decide +kernel) (pa_cons (pv 3) pa_nil)) (pa_cons (pe_callTy call_strIN (by rfl) T.z_str (by decide +kernel) (pa_cons (pv 4) pa_nil)) (pa_cons (pe_call (ok_word_of T) (hr.mono (by decide)) (by rfl) T.g_word_of T.F_word_of.kp T.b_word_of .nil pass0 (pa_cons (pv 0) pa_nil)) pa_nil))))))))
  (pss_cons (ps_if (pt_cmpR op_gt (pe_callB (call_lenK (K := K) rfl) (by rfl) T.z_len (by decide +kernel) (pa_cons (pv 5) pa_nil)) pe_int (nomark _))
   (pss_one (ps_set (i := 8) sc_row_body.nd rfl (Or.inl rfl) (pe_op op_cat (pv 8) (pe_lst (pa_cons (pe_ifExp (pt_cmpR op_isNN (pv 6) pe_non (nomark _)) (pe_globE T.c_NEVER (by rfl)) (pe_callTy call_strV (by rfl) T.z_str (by decide +kernel) (pa_cons (pv 6) pa_nil))) (pa_cons (pe_bmK (K := K) rfl PySem.F.plainAttrs_str PySem.F.slot_str_join PySem.F.type_str_join (mt_joinK (K := K) rfl) pe_str (pa_cons (pv 5) pa_nil)) pa_nil))))))
   pss_nil)
  (pss_one (ps_ret (pe_bmK (K := K) rfl PySem.F.plainAttrs_str PySem.F.slot_str_join PySem.F.type_str_join (mt_joinK (K := K) rfl) pe_str (pa_cons (pv 8) pa_nil))))))), ?_⟩
    try dsimp only [cxOf, Cx.nox]
    walk_at "go"
    refine ⟨p, r, rfl, hV, ?_⟩
    walk_at "go"
    rename_i p1 hp1
    have hA1 : (upd H p1 (.lst [V.str "key", V.str r.k, V.str r.g, V.str (toString r.c), V.str (toString r.m), V.str (wdOf r)])) p1 = some (.lst [V.str "key", V.str r.k, V.str r.g, V.str (toString r.c), V.str (toString r.m), V.str (wdOf r)]) := upd_same
    have hE1 := Evl.Ex.new hp1 (o := .lst [V.str "key", V.str r.k, V.str r.g, V.str (toString r.c), V.str (toString r.m), V.str (wdOf r)])
    generalize upd H p1 (.lst [V.str "key", V.str r.k, V.str r.g, V.str (toString r.c), V.str (toString r.m), V.str (wdOf r)]) = H1 at *
    clear hp1
    have h21 := ex_sqT hE1 h2
    rw [List.length_map]
    refine w_dec (fun h3 => ?_) (fun h3 => ?_)
    · have hjn : ((r.lk.map (·.length)).sum + r.lk.length * (",": Str).length ≤ 16777216) := by
        have h7 := sum_len hok.h
        have h8 : 1000 * r.lk.length ≤ 1000 * 100 := Nat.mul_le_mul_left _ l6
        rw [show ("," : Str).length = 1 from rfl]
        omega
      have hjl : (Txt.join "," r.lk).length ≤ 1001 * r.lk.length := join_len hok.h
      have hjm : 1001 * r.lk.length ≤ 1001 * 100 := Nat.mul_le_mul_left _ l6
      have fin : ∀ H2 p2, H1 p2 = none ∨ True → Ex H1 H2 → H2 p2 = some (.lst [V.str (soonW r.e), V.str (Txt.join "," r.lk)]) → ∀ p3, H2 p3 = none → Q (.str (Txt.join " " ([("key" : Str), r.k, r.g, (toString r.c : Str), (toString r.m : Str), wdOf r] ++ [soonW r.e, Txt.join "," r.lk]))) (upd H2 p3 (.lst (([("key" : Str), r.k, r.g, (toString r.c : Str), (toString r.m : Str), wdOf r] ++ [soonW r.e, Txt.join "," r.lk]).map V.str))) := fun H2 p2 _ hE2 _ p3 hp3 => by
        have q1 := q (upd H2 p3 (.lst (([("key" : Str), r.k, r.g, (toString r.c : Str), (toString r.m : Str), wdOf r] ++ [soonW r.e, Txt.join "," r.lk]).map V.str))) ((hE1.trans hE2).trans (Evl.Ex.new hp3))
        unfold krB krW at q1
        rw [if_pos (by omega)] at q1
        exact q1
      have hall : ∀ z ∈ [("key" : Str), r.k, r.g, (toString r.c : Str), (toString r.m : Str), wdOf r] ++ [soonW r.e, Txt.join "," r.lk], z.length ≤ 200000 := fun z hz => by
        rcases List.mem_append.mp hz with hz | hz
        · have := hfst z hz; omega
        · simp only [List.mem_cons, List.not_mem_nil, or_false] at hz
          rcases hz with rfl | rfl <;> omega
      have hsum := sum_len hall
      cases he : r.e with
      | none =>
        rw [he] at fin hall hsum
        rw [oN_none]
        walk_at "go"
        refine ⟨_, _, _, rfl, rfl, .inr h21, hjn, ?_⟩
        walk_at "go"
        rename_i p2 hp2 p3 hp3
        have e4 : ([V.str "key", V.str r.k, V.str r.g, V.str (toString r.c), V.str (toString r.m), V.str (wdOf r)] ++ [V.str (soonW none), V.str (Txt.join "," r.lk)]) = ([("key" : Str), r.k, r.g, (toString r.c : Str), (toString r.m : Str), wdOf r] ++ [soonW none, Txt.join "," r.lk]).map V.str := rfl
        have e5 : ("never" : Str) = soonW none := rfl
        rw [e5, e4]
        refine g_join (.inl (.inl upd_same)) ?_ ?_
        · have h9 : (([("key" : Str), r.k, r.g, (toString r.c : Str), (toString r.m : Str), wdOf r] ++ [soonW none, Txt.join "," r.lk]).length) = 8 := rfl
          rw [h9] at hsum ⊢
          rw [show (" " : Str).length = 1 from rfl]
          omega
        · exact fin _ p2 (.inr trivial) (Evl.Ex.new hp2) upd_same p3 hp3
      | some i =>
        have hi := hok.e i he
        have hi0 : 0 ≤ i := hi.1
        have hi1 : i < 10000000000000 := hi.2
        rw [he] at fin hall hsum
        rw [oN_some]
        walk_at "go"
        refine .inl ⟨i, rfl, log_small (by omega), ?_⟩
        walk_at "go"
        refine ⟨_, _, _, rfl, rfl, .inr h21, hjn, ?_⟩
        walk_at "go"
        rename_i p2 hp2 p3 hp3
        have e4 : ([V.str "key", V.str r.k, V.str r.g, V.str (toString r.c), V.str (toString r.m), V.str (wdOf r)] ++ [V.str (soonW (some i)), V.str (Txt.join "," r.lk)]) = ([("key" : Str), r.k, r.g, (toString r.c : Str), (toString r.m : Str), wdOf r] ++ [soonW (some i), Txt.join "," r.lk]).map V.str := rfl
        have e5 : (toString i : Str) = soonW (some i) := rfl
        rw [e5, e4]
        refine g_join (.inl (.inl upd_same)) ?_ ?_
        · have h9 : (([("key" : Str), r.k, r.g, (toString r.c : Str), (toString r.m : Str), wdOf r] ++ [soonW (some i), Txt.join "," r.lk]).length) = 8 := rfl
          rw [h9] at hsum ⊢
          rw [show (" " : Str).length = 1 from rfl]
          omega
        · exact fin _ p2 (.inr trivial) (Evl.Ex.new hp2) upd_same p3 hp3
    · walk_at "go"
      have e4 : [V.str "key", V.str r.k, V.str r.g, V.str (toString r.c), V.str (toString r.m), V.str (wdOf r)] = (krW r).map V.str := by
        unfold krW
        rw [if_neg (by omega)]
        rfl
      rw [e4] at hA1
      refine g_join (.inl (.inl hA1)) (join_ok (by unfold krW; rw [if_neg (by omega)]; show 6 ≤ 300; omega) fun z hz => ?_) ?_
      · unfold krW at hz
        rw [if_neg (by omega), List.append_nil] at hz
        exact hfst z hz
      · exact q _ hE1
theorem ok_read_moment (T : Txt P K mg a) : FnOk P w K mg base CX0 2 a.f_read_moment a.d_read_moment ["word"] (sp_read_moment K) := by
  refine T.F_read_moment.ok sc_read_moment (fun vs H Q E h => ?len) (fun cdv A outer s H vs Q E hr h => ?body)
  case len => obtain ⟨z, rfl, _⟩ := h; rfl
  case body =>
    obtain ⟨z, rfl, hz, q⟩ := h
    unfold readMo at q
    refine ⟨_, (pss_cons (ps_set (i := 1) sc_read_moment.nd rfl (Or.inl rfl) (pe_call (ok_read_number T) (hr.mono (by decide)) (by rfl) T.g_read_number T.F_read_number.kp T.b_read_number .nil pass0 (pa_cons (pv 0) (pa_cons pe_int pa_nil))))
  (pss_cons (ps_if (PW.pt (pw_or (pt_cmpR op_isNN (pv 1) pe_non (nomark _)) (pw_or1 (pt_cmpR op_gt (pv 1) (pe_globE T.c_MOST_MOMENT (by rfl)) (nomark _)))))
   (pss_one (ps_ret pe_non))
   pss_nil)
  (pss_one (ps_ret (pv 1))))), ?_⟩
    try dsimp only [cxOf, Cx.nox]
    walk_at "go"
    refine ⟨z, 10, rfl, hz, by decide, fun H1 hE1 => ?_⟩
    cases hm : numOf 10 (tl z) with
    | none =>
      dsimp only [oI]
      walk_at "go"
      rw [hm] at q
      exact q _ hE1
    | some m =>
      dsimp only [oI]
      walk_at "go"
      rw [hm] at q
      dsimp only [Option.bind_some] at q
      refine w_dec (fun h1 => ?_) (fun h1 => ?_)
      · walk_at "go"
        rw [if_pos h1] at q
        exact q _ hE1
      · walk_at "go"
        rw [if_neg h1] at q
        exact q _ hE1
theorem ok_read_view (T : Txt P K mg a) : FnOk P w K mg base CX0 2 a.f_read_view a.d_read_view ["words"] (sp_read_view K) := by
  refine T.F_read_view.ok sc_read_view (fun vs H Q E h => ?len) (fun cdv A outer s H vs Q E hr h => ?body)
  case len => obtain ⟨p, ws, rfl, _⟩ := h; rfl
  case body =>
    obtain ⟨p, ws, rfl, hS, hw, hwl, q0, q1⟩ := h
    refine ⟨_, (pss_cons (ps_if (pt_cmpR op_lt (pe_callB (call_lenK (K := K) rfl) (by rfl) T.z_len (by decide +kernel) (pa_cons (pv 0) pa_nil)) pe_int (nomark _))
   (pss_one (ps_ret pe_non))
   pss_nil)
  (pss_cons (ps_set (i := 1) sc_read_view.nd rfl (Or.inl rfl) (pe_call (ok_read_number T) (hr.mono (by decide)) (by rfl) T.g_read_number T.F_read_number.kp T.b_read_number .nil pass0 (pa_cons (pe_ix (ix_listK (K := K) rfl) (pv 0) pe_int (fun _ _ => rfl)) (pa_cons pe_int pa_nil))))
  (pss_cons (ps_set (i := 2) sc_read_view.nd rfl (Or.inl rfl) (pe_call (ok_read_number T) (hr.mono (by decide)) (by rfl) T.g_read_number T.F_read_number.kp T.b_read_number .nil pass0 (pa_cons (pe_ix (ix_listK (K := K) rfl) (pv 0) pe_int (fun _ _ => rfl)) (pa_cons pe_int pa_nil))))
  (pss_cons (ps_set (i := 3) sc_read_view.nd rfl (Or.inl rfl) (pe_callTy (call_tupK (K := K) rfl) (by rfl) T.z_tuple (by decide +kernel) (pa_cons (pe_slice (sl_listK (K := K) rfl) (pv 0) (po_some pe_int) po_none) pa_nil)))
  (pss_cons (ps_if (PW.pt (pw_or (pt_cmpR op_isNN (pv 1) pe_non (nomark _)) (pw_or (PW.pt (pw_and (pt_cmpR op_isNN (pv 2) pe_non (nomark _)) (pw_and1 (pt_cmpR op_ne (pe_ix (ix_listK (K := K) rfl) (pv 0) pe_int (fun _ _ => rfl)) (pe_globE T.c_NONE (by rfl)) (nomark _))))) (pw_or1 (pt_cmpR op_gt (pe_callB (call_lenK (K := K) rfl) (by rfl) T.z_len (by decide +kernel) (pa_cons (pv 3) pa_nil)) (pe_globE T.c_MOST_HOUSES (by rfl)) (nomark _))))))
   (pss_one (ps_ret pe_non))
   pss_nil)
  (pss_cons (ps_if (PW.pt (pw_or (pt_cmpR op_lt (pe_callB (call_lenTK (P := P) (w := w) rfl rfl) (by rfl) T.z_len (by decide +kernel) (pa_cons (pe_callTy (call_setUK (P := P) (w := w) (K := K) rfl rfl rfl rfl) (by rfl) T.z_set (by decide +kernel) (pa_cons (pv 3) pa_nil)) pa_nil)) (pe_callB (call_lenK (K := K) rfl) (by rfl) T.z_len (by decide +kernel) (pa_cons (pv 3) pa_nil)) (nomark _)) (pw_or1 (pt_not (pt_val (pe_callB (cr_allK (K := K) rfl rfl) (by rfl) T.z_all (by decide +kernel) (pa_cons (pe_lc (own := [("house", 4)]) (g := gName 4) (tt := tYes) rfl sc_read_view.nd (pi_tupK (K := K) rfl (pv 3)) (blkOk_by (own := [("house", 4)]) (N := ["words", "number", "due", "houses", "house"]) (sc := defScope s_read_view) (by decide +kernel)) (fun _ _ _ _ _ => (pg_name (i := 4) sc_read_view.nd rfl (Or.inl rfl))) (fun _ _ _ _ _ => pts_nil) (fun _ _ _ _ _ => (pe_call (ok_is_name T) (hr.mono (by decide)) (by rfl) T.g_is_name T.F_is_name.kp T.b_is_name .nil pass0 (pa_cons (pv 4) pa_nil)))) pa_nil)))))))
   (pss_one (ps_ret pe_non))
   pss_nil)
  (pss_one (ps_ret (pe_tup (pa_cons (pv 1) (pa_cons (pv 2) (pa_cons (pv 3) pa_nil)))))))))))), ?_⟩
    try dsimp only [cxOf, Cx.nox]
    walk_at "go"
    rw [List.length_map]
    refine w_dec (fun h1 => ?_) (fun h1 => ?_)
    · walk_at "go"
      refine q0 ?_ _ (Evl.Ex.refl _)
      match ws, h1 with
      | [], _ => rfl
      | [_], _ => rfl
      | [_, _], _ => rfl
      | _ :: _ :: _ :: _, h => exact absurd h (by simp only [List.length_cons]; omega)
    obtain ⟨n, d, h, hs, rfl⟩ : ∃ n d h hs, ws = n :: d :: h :: hs := by
      match ws, h1 with
      | [], h => exact absurd (by simp) h
      | [_], h => exact absurd (by simp) h
      | [_, _], h => exact absurd (by simp) h
      | n :: d :: h :: hs, _ => exact ⟨n, d, h, hs, rfl⟩
    have ln := hw n (by simp)
    have ld := hw d (by simp)
    have hS0 : SqL K H p (.str n :: .str d :: (h :: hs).map V.str) := hS
    have hrd : readVw (n :: d :: h :: hs) = (numOf 6 (tl n)).bind fun k => if (decide (numOf 6 (tl d) = none) && decide (d ≠ "none")) = true then none else if (h :: hs).length > 8 then none else if (decide ((h :: hs).Nodup) && (h :: hs).all isName) = true then some ⟨k, numOf 6 (tl d), h :: hs⟩ else none := rfl
    rw [hrd] at q0 q1
    have hcut : cutV (.str n :: .str d :: (h :: hs).map V.str) (some 2) none = (h :: hs).map V.str := by
      rw [cutV_from _ (by decide)]
      rfl
    have hzl : ∀ z ∈ h :: hs, z.length ≤ 100000 := fun z hz => hw z (List.mem_cons_of_mem _ (List.mem_cons_of_mem _ hz))
    clear hrd hw h1 hS
    generalize h :: hs = zs at *
    walk_at "go"
    refine ⟨n, 6, rfl, ln, by decide, fun H1 hE1 => ?_⟩
    walk_at "go"
    refine ⟨d, 6, rfl, ld, by decide, fun H2 hE2 => ?_⟩
    have hE02 := hE1.trans hE2
    cases hn : numOf 6 (tl n) with
    | none =>
      dsimp only [oI]
      walk_at "go"
      exact q0 (by rw [hn]; rfl) _ (by walk_at "ex")
    | some k =>
    rw [hn] at q0 q1
    dsimp only [Option.bind_some] at q0 q1
    have hlen : (zs.map V.str).length = zs.length := List.length_map ..
    cases hd : numOf 6 (tl d)
    · dsimp only [oI]
      walk_at "go"
      refine w_ndec (fun h3 => ?_) (fun h3 => ?_)
      · walk_at "go"
        exact q0 (by rw [hd, if_pos (by rw [decide_eq_true rfl, decide_eq_true h3]; rfl)]) _ (by walk_at "ex")
      have hdd : (decide (numOf 6 (tl d) = none) && decide (d ≠ "none")) = false := by rw [decide_eq_false (not_not_intro h3), Bool.and_false]
      rw [hdd, if_neg Bool.false_ne_true] at q0 q1
      clear hdd h3
      walk_at "go"
      rename_i pS hpS pT hpT
      rw [hcut] at hpT ⊢
      rw [hlen]
      have hE4 : Ex H2 (upd (upd H2 pS (.lst (zs.map V.str))) pT (.tup (zs.map V.str))) := by walk_at "ex"
      have hT4 : SqT K (upd (upd H2 pS (.lst (zs.map V.str))) pT (.tup (zs.map V.str))) pT (zs.map V.str) := .inl (.inl upd_same)
      have hE04 := hE02.trans hE4
      generalize upd (upd H2 pS (.lst (zs.map V.str))) pT (.tup (zs.map V.str)) = H4 at *
      clear hpT hE4 hE02 hE1 hE2
      refine w_dec (fun h4 => ?_) (fun h4 => ?_)
      · walk_at "go"
        exact q0 (by rw [if_pos (by omega)]) _ hE04
      rw [if_neg (by omega)] at q0 q1
      walk_at "go"
      refine g_setU hT4 (by omega) (fun ps hps => ?_)
      have hEs : Ex H4 (upd H4 ps (textsO P w ps zs)) := Evl.Ex.new hps
      refine ⟨ps, zs, rfl, upd_same, by omega, fun ys hy1 hy2 => ?_⟩
      have hT5 := ex_sqT hEs hT4
      have hE05 := hE04.trans hEs
      generalize upd H4 ps (textsO P w ps zs) = H5 at *
      clear hEs hps hE04 hT4
      walk_at "go"
      rw [hlen]
      by_cases hnd : zs.Nodup
      rotate_left
      · have hlt := fewer hy1 hy2 hnd
        refine w_dec (fun _ => ?_) (fun h => absurd (by omega) h)
        walk_at "go"
        exact q0 (by rw [decide_eq_false hnd, Bool.false_and, if_neg Bool.false_ne_true]) _ hE05
      have hyl : ys.length = zs.length := ((List.perm_ext_iff_of_nodup hy1 hnd).mpr fun k => hy2 k).length_eq
      rw [hyl]
      rw [decide_eq_true hnd, Bool.true_and] at q0 q1
      refine w_dec (fun h => absurd h (by omega)) (fun _ => ?_)
      walk_at "go"
      refine lc_tup (fun v => .bl (match v with | .str z => isName z | _ => false)) hT5 (by omega) (fun v hv H6 e6 R hR => ?_) (fun p6 H6 hp6 hE6 hL6 => ?_)
      · obtain ⟨z, hz, rfl⟩ := List.mem_map.mp hv
        walk_at "go"
        refine ⟨z, rfl, hzl z hz, fun H7 hE7 => ?_⟩
        exact hR _ hE7
      have hT6 := ex_sqT hE6 hT5
      have hE06 := hE05.trans hE6
      have hL7 : SqL K H6 p6 ((zs.map isName).map V.bl) := .inl (.inl (by rw [hL6, List.map_map, List.map_map]; rfl))
      clear hL6 hp6
      walk_at "go"
      rw [List.all_map, show ((fun c : Bool => c) ∘ isName) = isName from rfl]
      refine w_ite (fun h8 => ?_) (fun h8 => ?_)
      · walk_at "go"
        exact q0 (by rw [if_neg (by rw [(Bool.not_eq_true' _).mp h8]; exact Bool.false_ne_true)]) _ hE06
      · walk_at "go"
        rename_i pV hpV
        exact q1 _ (by rw [if_pos ((Bool.not_eq_false' _).mp h8)]) pV _ (ex_free hE06 hpV) (by walk_at "ex") ⟨pT, by rw [hd]; exact .inl (.inl upd_same), by walk_at "sq"⟩
    · dsimp only [oI]
      have hdd : (decide (numOf 6 (tl d) = none) && decide (d ≠ "none")) = false := by rw [hd]; rfl
      rw [hdd, if_neg Bool.false_ne_true] at q0 q1
      clear hdd
      walk_at "go"
      rename_i pS hpS pT hpT
      rw [hcut] at hpT ⊢
      rw [hlen]
      have hE4 : Ex H2 (upd (upd H2 pS (.lst (zs.map V.str))) pT (.tup (zs.map V.str))) := by walk_at "ex"
      have hT4 : SqT K (upd (upd H2 pS (.lst (zs.map V.str))) pT (.tup (zs.map V.str))) pT (zs.map V.str) := .inl (.inl upd_same)
      have hE04 := hE02.trans hE4
      generalize upd (upd H2 pS (.lst (zs.map V.str))) pT (.tup (zs.map V.str)) = H4 at *
      clear hpT hE4 hE02 hE1 hE2
      refine w_dec (fun h4 => ?_) (fun h4 => ?_)
      · walk_at "go"
        exact q0 (by rw [if_pos (by omega)]) _ hE04
      rw [if_neg (by omega)] at q0 q1
      walk_at "go"
      refine g_setU hT4 (by omega) (fun ps hps => ?_)
      have hEs : Ex H4 (upd H4 ps (textsO P w ps zs)) := Evl.Ex.new hps
      refine ⟨ps, zs, rfl, upd_same, by omega, fun ys hy1 hy2 => ?_⟩
      have hT5 := ex_sqT hEs hT4
      have hE05 := hE04.trans hEs
      generalize upd H4 ps (textsO P w ps zs) = H5 at *
      clear hEs hps hE04 hT4
      walk_at "go"
      rw [hlen]
      by_cases hnd : zs.Nodup
      rotate_left
      · have hlt := fewer hy1 hy2 hnd
        refine w_dec (fun _ => ?_) (fun h => absurd (by omega) h)
        walk_at "go"
        exact q0 (by rw [decide_eq_false hnd, Bool.false_and, if_neg Bool.false_ne_true]) _ hE05
      have hyl : ys.length = zs.length := ((List.perm_ext_iff_of_nodup hy1 hnd).mpr fun k => hy2 k).length_eq
      rw [hyl]
      rw [decide_eq_true hnd, Bool.true_and] at q0 q1
      refine w_dec (fun h => absurd h (by omega)) (fun _ => ?_)
      walk_at "go"
      refine lc_tup (fun v => .bl (match v with | .str z => isName z | _ => false)) hT5 (by omega) (fun v hv H6 e6 R hR => ?_) (fun p6 H6 hp6 hE6 hL6 => ?_)
      · obtain ⟨z, hz, rfl⟩ := List.mem_map.mp hv
        walk_at "go"
        refine ⟨z, rfl, hzl z hz, fun H7 hE7 => ?_⟩
        exact hR _ hE7
      have hT6 := ex_sqT hE6 hT5
      have hE06 := hE05.trans hE6
      have hL7 : SqL K H6 p6 ((zs.map isName).map V.bl) := .inl (.inl (by rw [hL6, List.map_map, List.map_map]; rfl))
      clear hL6 hp6
      walk_at "go"
      rw [List.all_map, show ((fun c : Bool => c) ∘ isName) = isName from rfl]
      refine w_ite (fun h8 => ?_) (fun h8 => ?_)
      · walk_at "go"
        exact q0 (by rw [if_neg (by rw [(Bool.not_eq_true' _).mp h8]; exact Bool.false_ne_true)]) _ hE06
      · walk_at "go"
        rename_i pV hpV
        exact q1 _ (by rw [if_pos ((Bool.not_eq_false' _).mp h8)]) pV _ (ex_free hE06 hpV) (by walk_at "ex") ⟨pT, by rw [hd]; exact .inl (.inl upd_same), by walk_at "sq"⟩
theorem ok_read_head (T : Txt P K mg a) : FnOk P w K mg base CX0 3 a.f_read_head a.d_read_head ["words"] (sp_read_head K) := by
  refine T.F_read_head.ok sc_read_head (fun vs H Q E h => ?len) (fun cdv A outer s H vs Q E hr h => ?body)
  case len => obtain ⟨p, ws, rfl, _⟩ := h; rfl
  case body =>
    obtain ⟨p, ws, rfl, hS, hw, hwl, q0, q1⟩ := h
    refine ⟨_, (pss_cons (ps_if (pt_cmpR op_lt (pe_callB (call_lenK (K := K) rfl) (by rfl) T.z_len (by decide +kernel) (pa_cons (pv 0) pa_nil)) pe_int (nomark _))
   (pss_one (ps_ret pe_non))
   pss_nil)
  (pss_cons (ps_set (i := 1) sc_read_head.nd rfl (Or.inl rfl) (pe_call (ok_read_number T) (hr.mono (by decide)) (by rfl) T.g_read_number T.F_read_number.kp T.b_read_number .nil pass0 (pa_cons (pe_ix (ix_listK (K := K) rfl) (pv 0) pe_int (fun _ _ => rfl)) (pa_cons pe_int pa_nil))))
  (pss_cons (ps_set (i := 2) sc_read_head.nd rfl (Or.inl rfl) (pe_call (ok_read_number T) (hr.mono (by decide)) (by rfl) T.g_read_number T.F_read_number.kp T.b_read_number .nil pass0 (pa_cons (pe_ix (ix_listK (K := K) rfl) (pv 0) pe_int (fun _ _ => rfl)) (pa_cons pe_int pa_nil))))
  (pss_cons (ps_set (i := 3) sc_read_head.nd rfl (Or.inl rfl) (pe_call (ok_read_moment T) (hr.mono (by decide)) (by rfl) T.g_read_moment T.F_read_moment.kp T.b_read_moment .nil pass0 (pa_cons (pe_ix (ix_listK (K := K) rfl) (pv 0) pe_int (fun _ _ => rfl)) pa_nil)))
  (pss_cons (ps_if (PW.pt (pw_or (pt_cmpR op_isNN (pv 1) pe_non (nomark _)) (pw_or (pt_cmpR op_isNN (pv 2) pe_non (nomark _)) (pw_or1 (PW.pt (pw_and (pt_cmpR op_isNN (pv 3) pe_non (nomark _)) (pw_and1 (pt_cmpR op_ne (pe_ix (ix_listK (K := K) rfl) (pv 0) pe_int (fun _ _ => rfl)) (pe_globE T.c_NONE (by rfl)) (nomark _)))))))))
   (pss_one (ps_ret pe_non))
   pss_nil)
  (pss_cons (ps_if (pt_cmpR op_eq (pe_callB (call_lenK (K := K) rfl) (by rfl) T.z_len (by decide +kernel) (pa_cons (pv 0) pa_nil)) pe_int (nomark _))
   (pss_one (ps_ret (pe_tup (pa_cons (pv 1) (pa_cons (pv 2) (pa_cons (pv 3) (pa_cons pe_non pa_nil)))))))
   pss_nil)
  (pss_cons (ps_set (i := 4) sc_read_head.nd rfl (Or.inl rfl) (pe_call (ok_read_view T) (hr.mono (by decide)) (by rfl) T.g_read_view T.F_read_view.kp T.b_read_view .nil pass0 (pa_cons (pe_slice (sl_listK (K := K) rfl) (pv 0) (po_some pe_int) po_none) pa_nil)))
  (pss_cons (ps_if (pt_cmpR op_isNN (pv 4) pe_non (nomark _))
   (pss_one (ps_ret pe_non))
   pss_nil)
  (pss_one (ps_ret (pe_tup (pa_cons (pv 1) (pa_cons (pv 2) (pa_cons (pv 3) (pa_cons (pv 4) pa_nil))))))))))))))), ?_⟩
    try dsimp only [cxOf, Cx.nox]
    walk_at "go"
    rw [List.length_map]
    refine w_dec (fun h1 => ?_) (fun h1 => ?_)
    · walk_at "go"
      refine q0 ?_ _ (Evl.Ex.refl _)
      match ws, h1 with
      | [], _ => rfl
      | [_], _ => rfl
      | [_, _], _ => rfl
      | _ :: _ :: _ :: _, h => exact absurd h (by simp only [List.length_cons]; omega)
    obtain ⟨m, e, x, r, rfl⟩ : ∃ m e x r, ws = m :: e :: x :: r := by
      match ws, h1 with
      | [], h => exact absurd (by simp) h
      | [_], h => exact absurd (by simp) h
      | [_, _], h => exact absurd (by simp) h
      | m :: e :: x :: r, _ => exact ⟨m, e, x, r, rfl⟩
    have lm := hw m (by simp)
    have le := hw e (by simp)
    have lx := hw x (by simp)
    have hS0 : SqL K H p (.str m :: .str e :: .str x :: r.map V.str) := hS
    have hrd : readHd (m :: e :: x :: r) = (numOf 6 (tl m)).bind fun m => (numOf 6 (tl e)).bind fun e => if (decide (readMo x = none) && decide (x ≠ "none")) = true then none else if r.length = 0 then some (.keep m e (readMo x) none) else (readVw r).bind fun v => some (.keep m e (readMo x) (some v)) := rfl
    rw [hrd] at q0 q1
    have hcut : cutV (.str m :: .str e :: .str x :: r.map V.str) (some 3) none = r.map V.str := by
      rw [cutV_from _ (by decide)]
      rfl
    have hzl : ∀ z ∈ r, z.length ≤ 100000 := fun z hz => hw z (List.mem_cons_of_mem _ (List.mem_cons_of_mem _ (List.mem_cons_of_mem _ hz)))
    have hrl : r.length ≤ 100000 := by simp only [List.length_cons] at hwl; omega
    clear hrd hw h1 hS
    walk_at "go"
    refine ⟨m, 6, rfl, lm, by decide, fun H1 hE1 => ?_⟩
    walk_at "go"
    refine ⟨e, 6, rfl, le, by decide, fun H2 hE2 => ?_⟩
    walk_at "go"
    refine ⟨x, rfl, lx, fun H3 hE3 => ?_⟩
    have hE03 := (hE1.trans hE2).trans hE3
    cases hm : numOf 6 (tl m) with
    | none =>
      dsimp only [oI]
      walk_at "go"
      exact q0 (by rw [hm]; rfl) _ hE03
    | some mi =>
    rw [hm] at q0 q1
    dsimp only [Option.bind_some] at q0 q1
    cases he : numOf 6 (tl e) with
    | none =>
      dsimp only [oI]
      walk_at "go"
      exact q0 (by rw [he]; rfl) _ hE03
    | some ei =>
    rw [he] at q0 q1
    dsimp only [Option.bind_some] at q0 q1
    have hlen : (r.map V.str).length = r.length := List.length_map ..
    have hS3 := ex_sqL hE03 hS0
    clear hE1 hE2 hE3
    cases hx : readMo x
    · rw [oN_none]
      dsimp only [oI]
      walk_at "go"
      refine w_ndec (fun h3 => ?_) (fun h3 => ?_)
      · walk_at "go"
        exact q0 (by rw [hx, if_pos (by rw [decide_eq_true rfl, decide_eq_true h3]; rfl)]) _ (by walk_at "ex")
      have hdd : (decide (readMo x = none) && decide (x ≠ "none")) = false := by rw [decide_eq_false (not_not_intro h3), Bool.and_false]
      rw [hdd, if_neg Bool.false_ne_true] at q0 q1
      clear hdd h3
      walk_at "go"
      rw [show (V.str m :: V.str e :: V.str x :: List.map V.str r).length = r.length + 3 from by simp only [List.length_cons, List.length_map]]
      refine w_dec (fun h4 => ?_) (fun h4 => ?_)
      · have hr0 : r.length = 0 := by omega
        walk_at "go"
        rename_i pV hpV
        exact q1 (.keep mi ei (readMo x) none) (by rw [if_pos hr0]) pV _ (ex_free hE03 hpV) (by walk_at "ex") ⟨.non, by rw [hx]; exact .inl (.inl upd_same), rfl⟩
      have hr0 : ¬ r.length = 0 := by omega
      rw [if_neg hr0] at q0 q1
      walk_at "go"
      rename_i pS hpS
      rw [hcut]
      refine ⟨pS, r, rfl, .inl (.inl upd_same), hzl, hrl, fun hv0 H5 hE5 => ?_, fun v hv q5 H5 hq5 hE5 hV5 => ?_⟩
      · walk_at "go"
        exact q0 (by rw [hv0]; rfl) _ (by walk_at "ex")
      · have hE05 : Ex H H5 := by walk_at "ex"
        walk_at "go"
        rename_i pV hpV
        exact q1 (.keep mi ei (readMo x) (some v)) (by rw [hv]; rfl) pV _ (ex_free hE05 hpV) (by walk_at "ex") ⟨.ref q5, by rw [hx]; exact .inl (.inl upd_same), q5, rfl, hV5.mono (Evl.Ex.new hpV)⟩
    · rw [oN_some]
      dsimp only [oI]
      have hdd : (decide (readMo x = none) && decide (x ≠ "none")) = false := by rw [hx]; rfl
      rw [hdd, if_neg Bool.false_ne_true] at q0 q1
      clear hdd
      walk_at "go"
      rw [show (V.str m :: V.str e :: V.str x :: List.map V.str r).length = r.length + 3 from by simp only [List.length_cons, List.length_map]]
      refine w_dec (fun h4 => ?_) (fun h4 => ?_)
      · have hr0 : r.length = 0 := by omega
        walk_at "go"
        rename_i pV hpV
        exact q1 (.keep mi ei (readMo x) none) (by rw [if_pos hr0]) pV _ (ex_free hE03 hpV) (by walk_at "ex") ⟨.non, by rw [hx]; exact .inl (.inl upd_same), rfl⟩
      have hr0 : ¬ r.length = 0 := by omega
      rw [if_neg hr0] at q0 q1
      walk_at "go"
      rename_i pS hpS
      rw [hcut]
      refine ⟨pS, r, rfl, .inl (.inl upd_same), hzl, hrl, fun hv0 H5 hE5 => ?_, fun v hv q5 H5 hq5 hE5 hV5 => ?_⟩
      · walk_at "go"
        exact q0 (by rw [hv0]; rfl) _ (by walk_at "ex")
      · have hE05 : Ex H H5 := by walk_at "ex"
        walk_at "go"
        rename_i pV hpV
        exact q1 (.keep mi ei (readMo x) (some v)) (by rw [hv]; rfl) pV _ (ex_free hE05 hpV) (by walk_at "ex") ⟨.ref q5, by rw [hx]; exact .inl (.inl upd_same), q5, rfl, hV5.mono (Evl.Ex.new hpV)⟩
theorem ok_read_refusal (T : Txt P K mg a) : FnOk P w K mg base CX0 2 a.f_read_refusal a.d_read_refusal ["words", "moment"] (sp_read_refusal K) := by
  refine T.F_read_refusal.ok sc_read_refusal (fun vs H Q E h => ?len) (fun cdv A outer s H vs Q E hr h => ?body)
  case len => obtain ⟨p, x, ns, mo, rfl, _⟩ := h; rfl
  case body =>
    obtain ⟨p, x, ns, mo, rfl, hS, hx, hn, q0, q1⟩ := h
    have hns : (Txt.split ns ",").length ≤ ns.length + 1 := split_countC ns
    have hle := split_le ns ","
    have hrd : readRef x ns mo = if (decide (numOf 12 (tl x) = none) && decide (x ≠ "never")) = true then none else if ∃ e, numOf 12 (tl x) = some e ∧ e ≤ mo then none else if (Txt.split ns ",").length > 8 then none else if (ascB (Txt.split ns ",") && (Txt.split ns ",").all isName) = true then some (Txt.split ns ",", numOf 12 (tl x)) else none := rfl
    rw [hrd] at q0 q1
    refine ⟨_, (pss_cons (ps_set (i := 2) sc_read_refusal.nd rfl (Or.inl rfl) (pe_callTy (call_tupK (K := K) rfl) (by rfl) T.z_tuple (by decide +kernel) (pa_cons (pe_bmK (K := K) rfl PySem.F.plainAttrs_str PySem.F.slot_str_split PySem.F.type_str_split mt_splitN (pe_ix (ix_listK (K := K) rfl) (pv 0) pe_int (fun _ _ => rfl)) (pa_cons pe_str pa_nil)) pa_nil)))
  (pss_cons (ps_set (i := 3) sc_read_refusal.nd rfl (Or.inl rfl) (pe_call (ok_read_number T) (hr.mono (by decide)) (by rfl) T.g_read_number T.F_read_number.kp T.b_read_number .nil pass0 (pa_cons (pe_ix (ix_listK (K := K) rfl) (pv 0) pe_int (fun _ _ => rfl)) (pa_cons pe_int pa_nil))))
  (pss_cons (ps_if (PW.pt (pw_and (pt_cmpR op_isNN (pv 3) pe_non (nomark _)) (pw_and1 (pt_cmpR op_ne (pe_ix (ix_listK (K := K) rfl) (pv 0) pe_int (fun _ _ => rfl)) (pe_globE T.c_NEVER (by rfl)) (nomark _)))))
   (pss_one (ps_ret pe_non))
   pss_nil)
  (pss_cons (ps_if (PW.pt (pw_and (pt_cmpR op_notNN (pv 3) pe_non (nomark _)) (pw_and1 (pt_cmpR op_le (pv 3) (pv 1) (nomark _)))))
   (pss_one (ps_ret pe_non))
   pss_nil)
  (pss_cons (ps_if (PW.pt (pw_or (pt_cmpR op_gt (pe_callB (call_lenK (K := K) rfl) (by rfl) T.z_len (by decide +kernel) (pa_cons (pv 2) pa_nil)) pe_int (nomark _)) (pw_or (pt_not (pt_val (pe_call (ok_ascends T) (hr.mono (by decide)) (by rfl) T.g_ascends T.F_ascends.kp T.b_ascends .nil pass0 (pa_cons (pv 2) pa_nil)))) (pw_or1 (pt_not (pt_val (pe_callB (cr_allK (K := K) rfl rfl) (by rfl) T.z_all (by decide +kernel) (pa_cons (pe_lc (own := [("name", 4)]) (g := gName 4) (tt := tYes) rfl sc_read_refusal.nd (pi_tupK (K := K) rfl (pv 2)) (blkOk_by (own := [("name", 4)]) (N := ["words", "moment", "names", "earliest", "name"]) (sc := defScope s_read_refusal) (by decide +kernel)) (fun _ _ _ _ _ => (pg_name (i := 4) sc_read_refusal.nd rfl (Or.inl rfl))) (fun _ _ _ _ _ => pts_nil) (fun _ _ _ _ _ => (pe_call (ok_is_name T) (hr.mono (by decide)) (by rfl) T.g_is_name T.F_is_name.kp T.b_is_name .nil pass0 (pa_cons (pv 4) pa_nil)))) pa_nil))))))))
   (pss_one (ps_ret pe_non))
   pss_nil)
  (pss_one (ps_ret (pe_tup (pa_cons (pv 2) (pa_cons (pv 3) pa_nil)))))))))), ?_⟩
    try dsimp only [cxOf, Cx.nox]
    walk_at "go"
    rename_i pS hpS pT hpT
    generalize Txt.split ns "," = zs at *
    have hlen : (zs.map V.str).length = zs.length := List.length_map ..
    have hE0 : Ex H (upd (upd H pS (.lst (zs.map V.str))) pT (.tup (zs.map V.str))) := by walk_at "ex"
    have hT0 : SqT K (upd (upd H pS (.lst (zs.map V.str))) pT (.tup (zs.map V.str))) pT (zs.map V.str) := .inl (.inl upd_same)
    have hS0 := ex_sqL hE0 hS
    generalize upd (upd H pS (.lst (zs.map V.str))) pT (.tup (zs.map V.str)) = H0 at *
    clear hpS hpT hS
    refine ⟨x, 12, rfl, hx, by decide, fun H1 hE1 => ?_⟩
    have hT1 := ex_sqT hE1 hT0
    have hS1 := ex_sqL hE1 hS0
    have hE01 := hE0.trans hE1
    clear hE0 hE1 hT0 hS0 hrd
    cases he : numOf 12 (tl x)
    · dsimp only [oI]
      walk_at "go"
      refine w_ndec (fun h3 => ?_) (fun h3 => ?_)
      · walk_at "go"
        exact q0 (by rw [he, if_pos (by rw [decide_eq_true rfl, decide_eq_true h3]; rfl)]) _ hE01
      have hdd : (decide (numOf 12 (tl x) = none) && decide (x ≠ "never")) = false := by rw [decide_eq_false (not_not_intro h3), Bool.and_false]
      rw [hdd, if_neg Bool.false_ne_true, if_neg (by rw [he]; rintro ⟨_, h, _⟩; cases h)] at q0 q1
      clear hdd h3
      walk_at "go"
      rw [hlen]
      refine w_dec (fun h4 => ?_) (fun h4 => ?_)
      · walk_at "go"
        exact q0 (by rw [if_pos (by omega)]) _ hE01
      rw [if_neg (by omega)] at q0 q1
      walk_at "go"
      refine ⟨pT, zs, rfl, .inr hT1, by omega, fun H2 hE2 => ?_⟩
      have hE02 := hE01.trans hE2
      have hT2 := ex_sqT hE2 hT1
      clear hE2 hE01 hT1
      walk_at "go"
      refine w_ite (fun h5 => ?_) (fun h5 => ?_)
      · walk_at "go"
        exact q0 (by rw [(Bool.not_eq_true' _).mp h5, Bool.false_and, if_neg Bool.false_ne_true]) _ hE02
      rw [(Bool.not_eq_false' _).mp h5, Bool.true_and] at q0 q1
      walk_at "go"
      refine lc_tup (fun v => .bl (match v with | .str z => isName z | _ => false)) hT2 (by omega) (fun v hv H6 e6 R hR => ?_) (fun p6 H6 hp6 hE6 hL6 => ?_)
      · obtain ⟨z, hz, rfl⟩ := List.mem_map.mp hv
        walk_at "go"
        refine ⟨z, rfl, Nat.le_trans (hle z hz) hn, fun H7 hE7 => ?_⟩
        exact hR _ hE7
      have hT6 := ex_sqT hE6 hT2
      have hE06 := hE02.trans hE6
      have hL7 : SqL K H6 p6 ((zs.map isName).map V.bl) := .inl (.inl (by rw [hL6, List.map_map, List.map_map]; rfl))
      clear hL6 hp6
      walk_at "go"
      rw [List.all_map, show ((fun c : Bool => c) ∘ isName) = isName from rfl]
      refine w_ite (fun h8 => ?_) (fun h8 => ?_)
      · walk_at "go"
        exact q0 (by rw [if_neg (by rw [(Bool.not_eq_true' _).mp h8]; exact Bool.false_ne_true)]) _ hE06
      · walk_at "go"
        rename_i pV hpV
        exact q1 _ (by rw [if_pos ((Bool.not_eq_false' _).mp h8)]) pV pT _ (ex_free hE06 hpV) (by walk_at "ex") (by rw [he]; exact .inl (.inl upd_same)) (by walk_at "sq")
    · rename_i e
      dsimp only [oI]
      have hdd : (decide (numOf 12 (tl x) = none) && decide (x ≠ "never")) = false := by rw [he]; rfl
      rw [hdd, if_neg Bool.false_ne_true] at q0 q1
      clear hdd
      walk_at "go"
      refine w_dec (fun h3 => ?_) (fun h3 => ?_)
      · walk_at "go"
        exact q0 (by rw [if_pos ⟨e, he, h3⟩]) _ hE01
      rw [if_neg (by rw [he]; rintro ⟨e2, h, h2⟩; cases h; exact h3 h2)] at q0 q1
      walk_at "go"
      rw [hlen]
      refine w_dec (fun h4 => ?_) (fun h4 => ?_)
      · walk_at "go"
        exact q0 (by rw [if_pos (by omega)]) _ hE01
      rw [if_neg (by omega)] at q0 q1
      walk_at "go"
      refine ⟨pT, zs, rfl, .inr hT1, by omega, fun H2 hE2 => ?_⟩
      have hE02 := hE01.trans hE2
      have hT2 := ex_sqT hE2 hT1
      clear hE2 hE01 hT1
      walk_at "go"
      refine w_ite (fun h5 => ?_) (fun h5 => ?_)
      · walk_at "go"
        exact q0 (by rw [(Bool.not_eq_true' _).mp h5, Bool.false_and, if_neg Bool.false_ne_true]) _ hE02
      rw [(Bool.not_eq_false' _).mp h5, Bool.true_and] at q0 q1
      walk_at "go"
      refine lc_tup (fun v => .bl (match v with | .str z => isName z | _ => false)) hT2 (by omega) (fun v hv H6 e6 R hR => ?_) (fun p6 H6 hp6 hE6 hL6 => ?_)
      · obtain ⟨z, hz, rfl⟩ := List.mem_map.mp hv
        walk_at "go"
        refine ⟨z, rfl, Nat.le_trans (hle z hz) hn, fun H7 hE7 => ?_⟩
        exact hR _ hE7
      have hT6 := ex_sqT hE6 hT2
      have hE06 := hE02.trans hE6
      have hL7 : SqL K H6 p6 ((zs.map isName).map V.bl) := .inl (.inl (by rw [hL6, List.map_map, List.map_map]; rfl))
      clear hL6 hp6
      walk_at "go"
      rw [List.all_map, show ((fun c : Bool => c) ∘ isName) = isName from rfl]
      refine w_ite (fun h8 => ?_) (fun h8 => ?_)
      · walk_at "go"
        exact q0 (by rw [if_neg (by rw [(Bool.not_eq_true' _).mp h8]; exact Bool.false_ne_true)]) _ hE06
      · walk_at "go"
        rename_i pV hpV
        exact q1 _ (by rw [if_pos ((Bool.not_eq_false' _).mp h8)]) pV pT _ (ex_free hE06 hpV) (by walk_at "ex") (by rw [he]; exact .inl (.inl upd_same)) (by walk_at "sq")
theorem ok_read_row (T : Txt P K mg a) : FnOk P w K mg base CX0 3 a.f_read_row a.d_read_row ["words"] (sp_read_row K) := by
  refine T.F_read_row.ok sc_read_row (fun vs H Q E h => ?len) (fun cdv A outer s H vs Q E hr h => ?body)
  case len => obtain ⟨p, ws, rfl, _⟩ := h; rfl
  case body =>
    obtain ⟨p, ws, rfl, hS, hw, hwl, q0, q1⟩ := h
    refine ⟨_, (pss_cons (ps_if (pt_cmpR op_lt (pe_callB (call_lenK (K := K) rfl) (by rfl) T.z_len (by decide +kernel) (pa_cons (pv 0) pa_nil)) pe_int (nomark _))
   (pss_one (ps_ret pe_non))
   pss_nil)
  (pss_cons (ps_set (i := 1) sc_read_row.nd rfl (Or.inl rfl) (pe_call (ok_read_number T) (hr.mono (by decide)) (by rfl) T.g_read_number T.F_read_number.kp T.b_read_number .nil pass0 (pa_cons (pe_ix (ix_listK (K := K) rfl) (pv 0) pe_int (fun _ _ => rfl)) (pa_cons pe_int pa_nil))))
  (pss_cons (ps_set (i := 2) sc_read_row.nd rfl (Or.inl rfl) (pe_call (ok_read_moment T) (hr.mono (by decide)) (by rfl) T.g_read_moment T.F_read_moment.kp T.b_read_moment .nil pass0 (pa_cons (pe_ix (ix_listK (K := K) rfl) (pv 0) pe_int (fun _ _ => rfl)) pa_nil)))
  (pss_cons (ps_if (PW.pt (pw_or (pt_not (pt_val (pe_call (ok_is_key T) (hr.mono (by decide)) (by rfl) T.g_is_key T.F_is_key.kp T.b_is_key .nil pass0 (pa_cons (pe_ix (ix_listK (K := K) rfl) (pv 0) pe_int (fun _ _ => rfl)) pa_nil)))) (pw_or (pt_not (pt_val (pe_call (ok_is_name T) (hr.mono (by decide)) (by rfl) T.g_is_name T.F_is_name.kp T.b_is_name .nil pass0 (pa_cons (pe_ix (ix_listK (K := K) rfl) (pv 0) pe_int (fun _ _ => rfl)) pa_nil)))) (pw_or (pt_cmpR op_isNN (pv 2) pe_non (nomark _)) (pw_or (pt_cmpR op_isNN (pv 1) pe_non (nomark _)) (pw_or1 (pt_not (pt_chain op_le op_le pe_int (pv 1) pe_int))))))))
   (pss_one (ps_ret pe_non))
   pss_nil)
  (pss_cons (ps_set (i := 3) sc_read_row.nd rfl (Or.inl rfl) (pe_tup (pa_cons (pe_ix (ix_listK (K := K) rfl) (pv 0) pe_int (fun _ _ => rfl)) (pa_cons (pe_ix (ix_listK (K := K) rfl) (pv 0) pe_int (fun _ _ => rfl)) (pa_cons (pv 1) (pa_cons (pv 2) pa_nil))))))
  (pss_cons (ps_if (PW.pt (pw_and (pt_cmpR op_eq (pe_callB (call_lenK (K := K) rfl) (by rfl) T.z_len (by decide +kernel) (pa_cons (pv 0) pa_nil)) pe_int (nomark _)) (pw_and1 (pt_cmpR (op_inK (K := K) rfl) (pe_ix (ix_listK (K := K) rfl) (pv 0) pe_int (fun _ _ => rfl)) (pe_tup (pa_cons pe_str (pa_cons pe_str pa_nil))) rfl))))
   (pss_one (ps_ret (pe_op (op_catAK (K := K) rfl) (pv 3) (pe_tup (pa_cons (pe_tup pa_nil) (pa_cons (pv 2) (pa_cons (pe_cmpR op_eq (pe_ix (ix_listK (K := K) rfl) (pv 0) pe_int (fun _ _ => rfl)) pe_str (nomark _)) pa_nil)))))))
   pss_nil)
  (pss_cons (ps_if (PW.pt (pw_and (pt_cmpR op_eq (pe_callB (call_lenK (K := K) rfl) (by rfl) T.z_len (by decide +kernel) (pa_cons (pv 0) pa_nil)) pe_int (nomark _)) (pw_and1 (pt_cmpR op_eq (pe_ix (ix_listK (K := K) rfl) (pv 0) pe_int (fun _ _ => rfl)) pe_str (nomark _)))))
   (pss_cons (ps_set (i := 4) sc_read_row.nd rfl (Or.inl rfl) (pe_call (ok_read_refusal T) (hr.mono (by decide)) (by rfl) T.g_read_refusal T.F_read_refusal.kp T.b_read_refusal .nil pass0 (pa_cons (pe_slice (sl_listK (K := K) rfl) (pv 0) (po_some pe_int) po_none) (pa_cons (pv 2) pa_nil))))
  (pss_one (ps_ret (pe_ifExp (pt_cmpR op_isNN (pv 4) pe_non (nomark _)) pe_non (pe_op (op_catAK (K := K) rfl) (pe_op (op_catAK (K := K) rfl) (pv 3) (pv 4)) (pe_tup (pa_cons pe_bl pa_nil)))))))
   pss_nil)
  (pss_one (ps_ret pe_non))))))))), ?_⟩
    try dsimp only [cxOf, Cx.nox]
    walk_at "go"
    rw [List.length_map]
    refine w_dec (fun h1 => ?_) (fun h1 => ?_)
    · walk_at "go"
      refine q0 ?_ _ (Evl.Ex.refl _)
      match ws, h1 with
      | [], _ => rfl
      | [_], _ => rfl
      | [_, _], _ => rfl
      | [_, _, _], _ => rfl
      | [_, _, _, _], _ => rfl
      | _ :: _ :: _ :: _ :: _ :: _, h => exact absurd h (by simp only [List.length_cons]; omega)
    obtain ⟨k, g, c, m, x, r, rfl⟩ : ∃ k g c m x r, ws = k :: g :: c :: m :: x :: r := by
      match ws, h1 with
      | [], h => exact absurd (by simp) h
      | [_], h => exact absurd (by simp) h
      | [_, _], h => exact absurd (by simp) h
      | [_, _, _], h => exact absurd (by simp) h
      | [_, _, _, _], h => exact absurd (by simp) h
      | k :: g :: c :: m :: x :: r, _ => exact ⟨k, g, c, m, x, r, rfl⟩
    have lk := hw k (by simp)
    have lg := hw g (by simp)
    have lc := hw c (by simp)
    have lm := hw m (by simp)
    have lx := hw x (by simp)
    have hS0 : SqL K H p (.str k :: .str g :: .str c :: .str m :: .str x :: r.map V.str) := hS
    have hrd : readKr (k :: g :: c :: m :: x :: r) = if (isKey k && isName g) = true then (readMo m).bind fun mo => (numOf 4 (tl c)).bind fun co =>
        if 1 ≤ co ∧ co ≤ 1000 then
          (if r.length = 0 ∧ (x = "let" ∨ x = "back") then some ⟨k, g, co, mo, [], some mo, decide (x = "back")⟩
           else match r with
            | [e, ns] => if x = "refused" then (readRef e ns mo).bind fun p => some ⟨k, g, co, mo, p.1, p.2, false⟩ else none
            | _ => none)
        else none
      else none := rfl
    rw [hrd] at q0 q1
    have hzl : ∀ z ∈ r, z.length ≤ 100000 := fun z hz => hw z (List.mem_cons_of_mem _ (List.mem_cons_of_mem _ (List.mem_cons_of_mem _ (List.mem_cons_of_mem _ (List.mem_cons_of_mem _ hz)))))
    clear hrd hw h1 hS
    walk_at "go"
    refine ⟨c, 4, rfl, lc, by decide, fun H1 hE1 => ?_⟩
    walk_at "go"
    refine ⟨m, rfl, lm, fun H2 hE2 => ?_⟩
    walk_at "go"
    refine ⟨k, rfl, lk, fun H3 hE3 => ?_⟩
    have hE03 := (hE1.trans hE2).trans hE3
    have hS3 := ex_sqL hE03 hS0
    clear hE1 hE2 hE3 hS0
    walk_at "go"
    refine w_ite (fun h1 => ?_) (fun h1 => ?_)
    · walk_at "go"
      exact q0 (by rw [(Bool.not_eq_true' _).mp h1, Bool.false_and, if_neg Bool.false_ne_true]) _ hE03
    rw [(Bool.not_eq_false' _).mp h1, Bool.true_and] at q0 q1
    walk_at "go"
    refine ⟨g, rfl, lg, fun H4 hE4 => ?_⟩
    have hE04 := hE03.trans hE4
    have hS4 := ex_sqL hE4 hS3
    clear hE03 hE4 hS3
    walk_at "go"
    refine w_ite (fun h2 => ?_) (fun h2 => ?_)
    · walk_at "go"
      exact q0 (by rw [(Bool.not_eq_true' _).mp h2, if_neg Bool.false_ne_true]) _ hE04
    rw [(Bool.not_eq_false' _).mp h2, if_pos rfl] at q0 q1
    cases hm : readMo m with
    | none =>
      rw [oN_none]
      walk_at "go"
      exact q0 (by rw [hm]; rfl) _ hE04
    | some mo =>
    rw [hm] at q0 q1
    dsimp only [Option.bind_some] at q0 q1
    rw [oN_some]
    cases hc : numOf 4 (tl c) with
    | none =>
      dsimp only [oI]
      walk_at "go"
      exact q0 (by rw [hc]; rfl) _ hE04
    | some co =>
    rw [hc] at q0 q1
    dsimp only [Option.bind_some] at q0 q1
    dsimp only [oI]
    walk_at "go"
    refine w_dec (fun c1 => ?_) (fun c1 => ?_)
    rotate_left
    · walk_at "go"
      exact q0 (by rw [if_neg (fun z => c1 z.1)]) _ hE04
    walk_at "go"
    refine w_ndec (fun c2 => ?_) (fun c2 => ?_)
    · walk_at "go"
      exact q0 (by rw [if_neg (fun z => c2 z.2)]) _ hE04
    rw [if_pos ⟨c1, c2⟩] at q0 q1
    walk_at "go"
    rename_i pr hpr
    have hE05 := hE04.trans (Evl.Ex.new hpr (o := .tup [V.str k, V.str g, V.int co, V.int mo]))
    have hS5 := ex_sqL (Evl.Ex.new hpr (o := .tup [V.str k, V.str g, V.int co, V.int mo])) hS4
    have hR5 : SqT K (upd H4 pr (.tup [V.str k, V.str g, V.int co, V.int mo])) pr [V.str k, V.str g, V.int co, V.int mo] := .inl (.inl upd_same)
    generalize upd H4 pr (.tup [V.str k, V.str g, V.int co, V.int mo]) = H5 at *
    clear hpr hE04 hS4
    rw [show (V.str k :: V.str g :: V.str c :: V.str m :: V.str x :: List.map V.str r).length = r.length + 5 from by simp only [List.length_cons, List.length_map]]
    refine w_dec (fun h5 => ?_) (fun h5 => ?_)
    · have hr0 : r.length = 0 := by omega
      have hr : r = [] := List.eq_nil_of_length_eq_zero hr0
      subst hr
      walk_at "go"
      rename_i pw hpw
      have hEw := Evl.Ex.new hpw (o := .tup [V.str "let", V.str "back"])
      refine g_inT (zs := ["let", "back"]) (.inl (.inl upd_same)) ?_
      have hE06 := hE05.trans hEw
      have hS6 := ex_sqL hEw hS5
      have hR6 := ex_sqT hEw hR5
      generalize upd H5 pw (.tup [V.str "let", V.str "back"]) = H6 at *
      clear hpw hEw hE05 hS5 hR5
      walk_at "go"
      refine w_dec (fun h6 => ?_) (fun h6 => ?_)
      · have hx2 : x = "let" ∨ x = "back" := by
          rcases List.mem_cons.mp h6 with z | z
          · exact .inl z
          · exact .inr (List.mem_singleton.mp z)
        rw [if_pos ⟨rfl, hx2⟩] at q1
        walk_at "go"
        rename_i pe hpe pt hpt
        refine g_catA (by walk_at "sq") (.inl (.inl upd_same)) (by simp only [List.length_cons, List.length_nil]; omega) (fun p7 H7 hE7 hT7 => ?_)
        walk_at "go"
        exact q1 _ rfl p7 H7 (by walk_at "ex") ⟨pe, hT7, ex_sqT hE7 (by walk_at "sq")⟩
      · rw [if_neg (fun z => h6 (by rcases z.2 with rfl | rfl; exact List.mem_cons_self; exact List.mem_cons_of_mem _ List.mem_cons_self))] at q0
        walk_at "go"
        exact q0 rfl _ hE06
    · have hr0 : ¬ (r.length = 0 ∧ (x = "let" ∨ x = "back")) := fun z => h5 (by have := z.1; omega)
      rw [if_neg hr0] at q0 q1
      walk_at "go"
      rw [show (V.str k :: V.str g :: V.str c :: V.str m :: V.str x :: List.map V.str r).length = r.length + 5 from by simp only [List.length_cons, List.length_map]]
      refine w_dec (fun h7 => ?_) (fun h7 => ?_)
      rotate_left
      · walk_at "go"
        refine q0 ?_ _ hE05
        match r, h7 with
        | [], _ => rfl
        | [_], _ => rfl
        | [_, _], h => exact absurd (by simp) h
        | _ :: _ :: _ :: _, _ => rfl
      obtain ⟨e, ns, rfl⟩ : ∃ e ns, r = [e, ns] := by
        match r, h7 with
        | [e, ns], _ => exact ⟨e, ns, rfl⟩
        | [], h => exact absurd h (by simp)
        | [_], h => exact absurd h (by simp)
        | _ :: _ :: _ :: _, h => exact absurd h (by simp only [List.length_cons]; omega)
      have hS5 : SqL K H5 p [.str k, .str g, .str c, .str m, .str x, .str e, .str ns] := hS5
      have le := hzl e (by simp)
      have ln := hzl ns (by simp)
      dsimp only at q0 q1
      walk_at "go"
      refine w_dec (fun h8 => ?_) (fun h8 => ?_)
      rotate_left
      · walk_at "go"
        exact q0 (by rw [if_neg h8]) _ hE05
      rw [if_pos h8] at q0 q1
      walk_at "go"
      rename_i pS hpS
      have hcut : cutV [V.str k, .str g, .str c, .str m, .str x, .str e, .str ns] (some 5) none = [.str e, .str ns] := rfl
      rw [hcut]
      refine ⟨pS, e, ns, mo, rfl, .inl (.inl upd_same), le, ln, fun hn0 H6 hE6 => ?_, fun rr hrr q6 l6 H6 hq6 hE6 hT6 hL6 => ?_⟩
      · walk_at "go"
        exact q0 (by rw [hn0]; rfl) _ (by walk_at "ex")
      have hE56 : Ex H5 H6 := by walk_at "ex"
      have hE06 := hE05.trans hE56
      have hR6 := ex_sqT hE56 hR5
      clear hE6 hpS hE56
      walk_at "go"
      refine g_catA hR6 hT6 (by simp only [List.length_cons, List.length_nil]; omega) (fun p7 H7 hE7 hT7 => ?_)
      walk_at "go"
      rename_i pf hpf
      refine g_catA (p := p7) (by walk_at "sq") (.inl (.inl upd_same)) (by simp only [List.length_cons, List.length_nil, List.length_append]; omega) (fun p8 H8 hE8 hT8 => ?_)
      walk_at "go"
      exact q1 ⟨k, g, co, mo, rr.1, rr.2, false⟩ (by rw [hrr]; rfl) p8 H8 (by walk_at "ex") ⟨l6, hT8, by walk_at "sq"⟩
theorem ok_read_parts (T : Txt P K mg a) : FnOk P w K mg base CX0 4 a.f_read_parts a.d_read_parts ["word", "words", "body"] (sp_read_parts K) := by
  refine T.F_read_parts.ok sc_read_parts (fun vs H Q E h => ?len) (fun cdv A outer s H vs Q E hr h => ?body)
  case len => obtain ⟨p, ws, k, z, rfl, _⟩ := h; rfl
  case body =>
    obtain ⟨p, ws, k, z, rfl, hS, hw, hwl, hz, q0, q1⟩ := h
    unfold readPa at q0 q1
    refine ⟨_, (pss_cons (ps_if (pt_cmpR op_eq (pv 0) pe_str (nomark _))
   (pss_cons (ps_set (i := 3) sc_read_parts.nd rfl (Or.inl rfl) (pe_call (ok_read_entry T) (hr.mono (by decide)) (by rfl) T.g_read_entry T.F_read_entry.kp T.b_read_entry .nil pass0 (pa_cons (pv 2) pa_nil)))
  (pss_one (ps_ret (pe_ifExp (PW.pt (pw_and (pt_cmpR op_notNN (pv 3) pe_non (nomark _)) (pw_and1 (pt_val (pe_call (ok_is_entry T) (hr.mono (by decide)) (by rfl) T.g_is_entry T.F_is_entry.kp T.b_is_entry .nil pass0 (pa_cons (pv 3) pa_nil)))))) (pv 3) pe_non))))
   pss_nil)
  (pss_cons (ps_if (pt_cmpR op_eq (pv 0) pe_str (nomark _))
   (pss_one (ps_ret (pe_call (ok_read_view T) (hr.mono (by decide)) (by rfl) T.g_read_view T.F_read_view.kp T.b_read_view .nil pass0 (pa_cons (pv 1) pa_nil))))
   pss_nil)
  (pss_cons (ps_if (pt_cmpR op_eq (pv 0) pe_str (nomark _))
   (pss_one (ps_ret (pe_call (ok_read_head T) (hr.mono (by decide)) (by rfl) T.g_read_head T.F_read_head.kp T.b_read_head .nil pass0 (pa_cons (pv 1) pa_nil))))
   pss_nil)
  (pss_one (ps_ret (pe_call (ok_read_row T) (hr.mono (by decide)) (by rfl) T.g_read_row T.F_read_row.kp T.b_read_row .nil pass0 (pa_cons (pv 1) pa_nil))))))), ?_⟩
    try dsimp only [cxOf, Cx.nox]
    walk_at "go"
    refine w_dec (fun h1 => ?_) (fun h1 => ?_)
    · rw [if_pos h1] at q0 q1
      walk_at "go"
      refine ⟨z, rfl, by omega, fun hn H1 hE1 => ?_, fun e he pe H1 hpe hE1 hA1 => ?_⟩
      · walk_at "go"
        exact q0 (by rw [hn]; rfl) _ hE1
      · rw [he] at q0 q1
        dsimp only [Option.bind_some] at q0 q1
        have hT1 : SqT K H1 pe e.vs := .inl (.inl hA1)
        walk_at "go"
        refine ⟨pe, e, rfl, hT1, fun s hs => by have := readEnt_len he s hs; omega, fun H2 hE2 => ?_⟩
        have hE02 := hE1.trans hE2
        walk_at "go"
        refine w_ite (fun h2 => ?_) (fun h2 => ?_)
        · walk_at "go"
          exact q1 (.ent e) (by rw [if_pos h2]) pe _ hE02 (ex_sqT hE2 hT1)
        · walk_at "go"
          exact q0 (by rw [if_neg (by rw [h2]; exact Bool.false_ne_true)]) _ hE02
    rw [if_neg h1] at q0 q1
    walk_at "go"
    refine w_dec (fun h2 => ?_) (fun h2 => ?_)
    · rw [if_pos h2] at q0 q1
      walk_at "go"
      exact ⟨p, ws, rfl, hS, hw, hwl, fun hn H1 hE1 => q0 (by rw [hn]; rfl) _ hE1, fun v hv q H1 hq hE1 hV => q1 (.view v) (by rw [hv]; rfl) q _ hE1 hV⟩
    rw [if_neg h2] at q0 q1
    walk_at "go"
    refine w_dec (fun h3 => ?_) (fun h3 => ?_)
    · rw [if_pos h3] at q0 q1
      walk_at "go"
      exact ⟨p, ws, rfl, hS, hw, hwl, fun hn H1 hE1 => q0 hn _ hE1, fun b hb q H1 hq hE1 hV => q1 b hb q _ hE1 hV⟩
    rw [if_neg h3] at q0 q1
    walk_at "go"
    exact ⟨p, ws, rfl, hS, hw, hwl, fun hn H1 hE1 => q0 (by rw [hn]; rfl) _ hE1, fun r hr q H1 hE1 hV => q1 (.key r) (by rw [hr]; rfl) q _ hE1 hV⟩
theorem ok_read_body (T : Txt P K mg a) : FnOk P w K mg base CX0 5 a.f_read_body a.d_read_body ["body"] (sp_read_body K) := by
  refine T.F_read_body.ok sc_read_body (fun vs H Q E h => ?len) (fun cdv A outer s H vs Q E hr h => ?body)
  case len => obtain ⟨z, rfl, _⟩ := h; rfl
  case body =>
    obtain ⟨z, rfl, hz, q0, q1⟩ := h
    have hle := split_le z " "
    have hct := split_countS z
    obtain ⟨wd, ws, hsp⟩ : ∃ wd ws, Txt.split z " " = wd :: ws := by
      cases h : Txt.split z " " with
      | cons wd ws => exact ⟨wd, ws, rfl⟩
      | nil =>
        have h2 := StrLaws.join_split z " "
        rw [h] at h2
        rw [← h2] at h
        exact absurd h (by decide +kernel)
    rw [read_kind hsp] at q0 q1
    rw [hsp] at hle hct
    refine ⟨_, (pss_cons (ps_set (i := 1) sc_read_body.nd rfl (Or.inl rfl) (pe_bmK (K := K) rfl PySem.F.plainAttrs_str PySem.F.slot_str_split PySem.F.type_str_split mt_splitN (pv 0) (pa_cons pe_str pa_nil)))
  (pss_cons (ps_set (i := 2) sc_read_body.nd rfl (Or.inl rfl) (pe_disp (pps_cons pe_str pe_str (pps_cons pe_str pe_str (pps_cons pe_str pe_str (pps_cons pe_str pe_str (pps_cons pe_str pe_str pps_nil))))) rfl rfl (by intro z; cases z) (by decide)))
  (pss_cons (ps_if (pt_cmp (pc_dnotin (hu_of hr) (pe_ix (ix_listK (K := K) rfl) (pv 1) pe_int (fun _ _ => rfl)) (pv 2)))
   (pss_one (ps_ret pe_non))
   pss_nil)
  (pss_cons (ps_set (i := 3) sc_read_body.nd rfl (Or.inl rfl) (pe_call (ok_read_parts T) (hr.mono (by decide)) (by rfl) T.g_read_parts T.F_read_parts.kp T.b_read_parts .nil pass0 (pa_cons (pe_dget (hu_of hr) (pv 2) (pe_ix (ix_listK (K := K) rfl) (pv 1) pe_int (fun _ _ => rfl)) (fun _ _ => rfl)) (pa_cons (pe_slice (sl_listK (K := K) rfl) (pv 1) (po_some pe_int) po_none) (pa_cons (pv 0) pa_nil)))))
  (pss_one (ps_ret (pe_ifExp (pt_cmpR op_isNN (pv 3) pe_non (nomark _)) pe_non (pe_tup (pa_cons (pe_dget (hu_of hr) (pv 2) (pe_ix (ix_listK (K := K) rfl) (pv 1) pe_int (fun _ _ => rfl)) (fun _ _ => rfl)) (pa_cons (pv 3) pa_nil)))))))))), ?_⟩
    try dsimp only [cxOf, Cx.nox]
    walk_at "go"
    rename_i pL hpL pD hpD
    rw [hsp] at hpD ⊢
    have hne : pL ≠ pD := fun y => by rw [← y, upd_same] at hpD; cases hpD
    have hpD0 : H pD = none := ex_free (Evl.Ex.new hpL) hpD
    refine g_dispE kindL upd_same rfl (by decide) ?_
    rw [kind_merge]
    have hE2 : Ex H (upd (upd (upd H pL (.lst ((wd :: ws).map V.str))) pD (.dK [])) pD (.dK kindL)) := Evl.Ex.mut ((Evl.Ex.new hpL).trans (Evl.Ex.new hpD)) hpD0
    have hS2 : SqL K (upd (upd (upd H pL (.lst ((wd :: ws).map V.str))) pD (.dK [])) pD (.dK kindL)) pL (.str wd :: ws.map V.str) := .inl (.inl (by rw [upd_ne hne, upd_ne hne]; exact upd_same))
    have hD2 : (upd (upd (upd H pL (.lst ((wd :: ws).map V.str))) pD (.dK [])) pD (.dK kindL)) pD = some (.dK kindL) := upd_same
    generalize upd (upd (upd H pL (.lst ((wd :: ws).map V.str))) pD (.dK [])) pD (.dK kindL) = H2 at *
    have hcut : cutV (.str wd :: ws.map V.str) (some 1) none = ws.map V.str := by
      rw [cutV_from _ (by decide)]
      rfl
    clear hpL hpD hpD0 hne
    walk_at "go"
    rw [kind_val]
    cases hk : kindOf wd with
    | none =>
      rw [hk] at q0
      dsimp only [Option.map_none, Option.isSome_none, Bool.not_false]
      walk_at "go"
      exact q0 rfl _ hE2
    | some k =>
    rw [hk] at q0 q1
    dsimp only [Option.bind_some] at q0 q1
    dsimp only [Option.map_some, Option.isSome_some, Bool.not_true]
    walk_at "go"
    refine g_dgetS hD2 (by rw [kind_val, hk]; rfl) ?_
    walk_at "go"
    rename_i pS hpS
    rw [hcut]
    refine ⟨pS, ws, k, z, rfl, .inl (.inl upd_same), fun x hx => ?_, ?_, hz, fun hn H5 hE5 => ?_, fun b hb q5 H5 hE5 hP5 => ?_⟩
    · have := hle x (List.mem_cons_of_mem _ hx); omega
    · rw [List.length_cons] at hct; omega
    · walk_at "go"
      exact q0 hn _ (by walk_at "ex")
    · have hE25 : Ex H2 H5 := by walk_at "ex"
      have hE05 := hE2.trans hE25
      have hD5 := hE25 _ _ hD2
      have hS5 := ex_sqL hE25 hS2
      walk_at "go"
      refine g_dgetS hD5 (by rw [kind_val, hk]; rfl) ?_
      walk_at "go"
      rename_i pV hpV
      exact q1 b hb pV _ (ex_free hE05 hpV) (by walk_at "ex") ⟨q5, by rw [kind_word hk hb]; exact .inl (.inl upd_same), hP5.mono (Evl.Ex.new hpV)⟩
theorem ok__law_names (T : Txt P K mg a) : FnOk P w K mg base CX0 1 a.f__law_names a.d__law_names ["_law_numbers_here", "_law_at", "_law_many"] (sp__law_names K) := by
  refine T.F__law_names.ok sc__law_names (fun vs H Q E h => ?len) (fun cdv A outer s H vs Q E hr h => ?body)
  case len => obtain ⟨l, ns, at_, m, rfl, _⟩ := h; rfl
  case body =>
    obtain ⟨l, ns, at_, m, rfl, hS, h9, ha0, hm0, hm8, ham, hm1, q⟩ := h
    have hn0 := h9.at (Int.toNat at_) (show at_.toNat < ns.length by omega)
    generalize hz0 : ns.getD (Int.toNat at_) 0 = n0 at *
    refine ⟨_, (pss_cons (ps_set (i := 3) sc__law_names.nd rfl (Or.inr rfl) pe_str)
  (pss_cons (ps_set (i := 4) sc__law_names.nd rfl (Or.inl rfl) (pe_lst pa_nil))
  (pss_cons (ps_for PassesOwn.never rfl (pi_range1 (by rfl) T.z_range (pa_cons (pv 2) pa_nil)) (pg_name (i := 5) sc__law_names.nd rfl (Or.inr rfl))
   (pss_cons (ps_set (i := 6) sc__law_names.nd rfl (Or.inl rfl) (pe_op op_mod (pe_callTy call_intI (by rfl) T.z_int (by decide +kernel) (pa_cons (pe_ix (ix_listK (K := K) rfl) (pv 0) (pe_op op_add (pv 1) (pv 5)) (fun _ _ => rfl)) pa_nil)) pe_int))
  (pss_cons (ps_set (i := 7) sc__law_names.nd rfl (Or.inl rfl) (pe_bmK (K := K) rfl PySem.F.plainAttrs_str PySem.F.slot_str_join PySem.F.type_str_join (mt_joinK (K := K) rfl) pe_str (pa_cons (pe_lc (own := [("_law_j", 8)]) (g := gName 8) (tt := tYes) rfl sc__law_names.nd (pi_range1 (by rfl) T.z_range (pa_cons (pv 6) pa_nil)) (blkOk_by (own := [("_law_j", 8)]) (N := ["_law_numbers_here", "_law_at", "_law_many", "_law_letters", "_law_names_here", "_law_k", "_law_size", "_law_tail", "_law_j"]) (sc := defScope s__law_names) (by decide +kernel)) (fun _ _ _ _ _ => (pg_name (i := 8) sc__law_names.nd rfl (Or.inl rfl))) (fun _ _ _ _ _ => pts_nil) (fun _ _ _ _ _ => (pe_ix ix_str (pv 3) (pe_op op_mod (pe_callTy call_intI (by rfl) T.z_int (by decide +kernel) (pa_cons (pe_op op_add (pe_op op_mul (pe_ix (ix_listK (K := K) rfl) (pv 0) (pe_op op_add (pv 1) (pv 5)) (fun _ _ => rfl)) (pe_op op_add (pv 8) pe_int)) (pv 8)) pa_nil)) pe_int) (fun _ _ => rfl)))) pa_nil)))
  (pss_one (ps_expr (pe_bmK (K := K) rfl PySem.F.plainAttrs_list PySem.F.slot_list_append PySem.F.type_list_append mt_append (pv 4) (pa_cons (pe_op op_addSN (pe_ix ix_str (pv 3) (pe_op op_mod (pe_callTy call_intI (by rfl) T.z_int (by decide +kernel) (pa_cons (pe_op op_add (pe_op op_mul pe_int (pv 5)) (pe_ix (ix_listK (K := K) rfl) (pv 0) (pv 1) (fun _ _ => rfl))) pa_nil)) pe_int) (fun _ _ => rfl)) (pv 7)) pa_nil)))))))
  (pss_one (ps_ret (pe_callTy (call_tupK (K := K) rfl) (by rfl) T.z_tuple (by decide +kernel) (pa_cons (pv 4) pa_nil))))))), ?_⟩
    try dsimp only [cxOf, Cx.nox]
    walk_at "go"
    rename_i pl hpl
    refine l_it walk_range (fun i σ' H' => ∃ (v5 v6 v7 v8 : Option V) (zs : List Str), σ' = [some (.ref l), some (.int at_), some (.int m), some (.str "abcdefghijklmnopqrstuvwxyz0123456789"), some (.ref pl), v5, v6, v7, v8] ∧ Ex H H' ∧ H' pl = some (.lst (zs.map V.str)) ∧ zs.length = i ∧ ∀ (j : Nat) (z : Str), zs[j]? = some z → ∃ T : List Nat, z = stxt (lt36 (4 * (j : Int) + n0) :: T) ∧ (∀ c ∈ T, inLet c = true) ∧ T.length ≤ 10) ⟨none, none, none, none, [], rfl, Evl.Ex.new hpl, upd_same, rfl, fun j z h => by cases h⟩ (fun i σ' H' hi hP => trivial) (fun i x σ' H2 H3 hi hP hY => ?_) (fun σ' H2 hP => ?_)
    · obtain ⟨v5, v6, v7, v8, zs, rfl, hE, hA, hzl, hz⟩ := hP
      obtain ⟨rfl, rfl⟩ := hY
      rw [show ((fun i : Nat => V.int (0 + (i : Int))) i) = V.int (i : Nat) from congrArg V.int (Int.zero_add _)]
      have hi8 : (i : Int) < m := by omega
      have hS2 := ex_sqL hE hS
      have hb := h9.at (Int.toNat (at_ + (i : Int))) (show (at_ + (i : Int)).toNat < ns.length by omega)
      have hlz : (zs.map V.str).length = i := by rw [List.length_map]; exact hzl
      walk_at "go"
      have hsz0 : 0 ≤ ns.getD (at_ + (i : Int)).toNat 0 % 11 := by omega
      have hsz1 : ns.getD (at_ + (i : Int)).toNat 0 % 11 < 11 := by omega
      refine lc_rng (fun j : Nat => V.str ⟨#[lt36 (ns.getD (at_ + (i : Int)).toNat 0 * ((j : Int) + 2) + (j : Int))]⟩) (by omega) (fun j hj H4 e4 R hR => ?_) (fun pr H4 hpr hE4 hA4 => ?_)
      · have hj11 : (j : Int) < 11 := by omega
        have hS4 := ex_sqL e4 hS2
        walk_at "go"
        exact hR _ (Evl.Ex.refl _)
      obtain ⟨R, hR⟩ : ∃ R : List Nat, R = (List.range (ns.getD (at_ + (i : Int)).toNat 0 % 11).toNat).map fun j : Nat => lt36 (ns.getD (at_ + (i : Int)).toNat 0 * ((j : Int) + 2) + (j : Int)) := ⟨_, rfl⟩
      have hRl : R.length ≤ 10 := by rw [hR, List.length_map, List.length_range]; omega
      have hRin : ∀ c ∈ R, inLet c = true := fun c hc => by
        rw [hR] at hc
        obtain ⟨j, _, rfl⟩ := List.mem_map.mp hc
        exact lt36_in _
      have hS1 : SqL K H4 pr (R.map fun c => V.str ⟨#[c]⟩) := .inl (.inl (by rw [hA4, hR, List.map_map]; rfl))
      have hA5 := hE4 _ _ hA
      have hS4 := ex_sqL hE4 hS2
      walk_at "go"
      refine g_joinC hS1 (by omega) ?_
      have hRs : (stxt R).length ≤ 10 := by rw [len_stxt]; exact hRl
      walk_at "go"
      rw [hz0]
      have ez : (⟨#[lt36 (4 * (i : Int) + n0)]⟩ : Str) ++ stxt R = stxt (lt36 (4 * (i : Int) + n0) :: R) := ext_tl (by rw [tl_app, tl_stxt, tl_stxt]; rfl)
      rw [ez]
      refine ⟨_, _, _, _, zs ++ [stxt (lt36 (4 * (i : Int) + n0) :: R)], rfl, Evl.Ex.mut (hE.trans hE4) hpl, by rw [upd_same, List.map_append]; rfl, by rw [List.length_append, hzl]; rfl, fun j z hj => ?_⟩
      by_cases hji : j < i
      · exact hz j z (by rw [List.getElem?_append_left (by omega)] at hj; exact hj)
      · have hj2 := (List.getElem?_eq_some_iff.mp hj).1
        rw [List.length_append, hzl] at hj2
        have hj3 : j = i := by simp only [List.length_singleton] at hj2; omega
        subst hj3
        rw [← hzl, List.getElem?_append_right (Nat.le_refl _), Nat.sub_self] at hj
        cases hj
        rw [hzl]
        exact ⟨R, rfl, hRin, hRl⟩
    · obtain ⟨v5, v6, v7, v8, zs, rfl, hE, hA, hzl, hz⟩ := hP
      walk_at "go"
      rename_i pt hpt
      have hm8n : m.toNat ≤ 8 := by omega
      refine q pt zs _ (hE.trans (Evl.Ex.new hpt)) (.inl (.inl upd_same)) ?_ (fun z hzm => ?_) (by omega)
      · refine List.pairwise_iff_getElem.mpr fun a b ha hb hab e => ?_
        have ha1 : zs[a]? = some (zs[a]'ha) := List.getElem?_eq_getElem ha
        have hb1 : zs[b]? = some (zs[b]'hb) := List.getElem?_eq_getElem hb
        obtain ⟨T1, e1, _⟩ := hz a _ ha1
        obtain ⟨T2, e2, _⟩ := hz b _ hb1
        have e3 := e
        rw [e1, e2] at e3
        have e4 := congrArg tl e3
        rw [tl_stxt, tl_stxt] at e4
        have e5 := lt36_inj (List.cons.inj e4).1
        omega
      · obtain ⟨j, hj, e⟩ := List.getElem_of_mem hzm
        obtain ⟨T, e1, hT, hTl⟩ := hz j z (by rw [← e]; exact List.getElem?_eq_getElem hj)
        unfold isName
        have hl : z.length = T.length + 1 := by rw [e1, len_stxt, List.length_cons]
        rw [decide_eq_true (show (1 : Int) ≤ (z.length : Int) by omega), decide_eq_true (show (z.length : Int) ≤ 12 by omega), Bool.true_and, Bool.true_and, e1, tl_stxt, List.all_cons, lt36_in, Bool.true_and]
        exact List.all_eq_true.mpr hT
theorem ok__law_view_words (T : Txt P K mg a) : FnOk P w K mg base CX0 1 a.f__law_view_words a.d__law_view_words ["_law_view_here"] (sp__law_view_words K) := by
  refine T.F__law_view_words.ok sc__law_view_words (fun vs H Q E h => ?len) (fun cdv A outer s H vs Q E hr h => ?body)
  case len => obtain ⟨p, v, rfl, _⟩ := h; rfl
  case body =>
    obtain ⟨p, v, rfl, hV, hok, q⟩ := h
    obtain ⟨ph, h1, h2⟩ := id hV
    have hn0 : 0 ≤ v.n := hok.n.1
    have hn1 : v.n < 10000000000000 := hok.n.2
    have hl := hok.l
    refine ⟨_, (pss_one (ps_ret (pe_op op_cat (pe_lst (pa_cons (pe_callTy call_strIN (by rfl) T.z_str (by decide +kernel) (pa_cons (pe_ix (ix_tupK (K := K) rfl) (pv 0) pe_int (fun _ _ => rfl)) pa_nil)) (pa_cons (pe_ifExp (pt_cmpR op_isNN (pe_ix (ix_tupK (K := K) rfl) (pv 0) pe_int (fun _ _ => rfl)) pe_non (nomark _)) pe_str (pe_callTy call_strV (by rfl) T.z_str (by decide +kernel) (pa_cons (pe_ix (ix_tupK (K := K) rfl) (pv 0) pe_int (fun _ _ => rfl)) pa_nil))) pa_nil))) (pe_callTy (call_listK (K := K) rfl) (by rfl) T.z_list (by decide +kernel) (pa_cons (pe_ix (ix_tupK (K := K) rfl) (pv 0) pe_int (fun _ _ => rfl)) pa_nil))))), ?_⟩
    try dsimp only [cxOf, Cx.nox]
    walk_at "go"
    cases hd : v.d with
    | none =>
      rw [hd] at h1
      rw [oN_none] at h1 ⊢
      refine w_dec (fun _ => ?_) (fun h => absurd rfl h)
      walk_at "go"
      rename_i p1 hp1 p2 hp2 p3 hp3
      exact q _ _ (ex_free (show Ex H _ by walk_at "ex") hp3) (by walk_at "ex") (by rw [upd_same]; unfold vwW; rw [hd]; rfl)
    | some i =>
      have hi := hok.d i hd
      have hi0 : 0 ≤ i := hi.1
      have hi1 : i < 10000000000000 := hi.2
      rw [hd] at h1
      rw [oN_some] at h1 ⊢
      refine w_dec (fun h => nomatch h) (fun _ => ?_)
      walk_at "go"
      refine .inl ⟨i, rfl, log_small (by omega), ?_⟩
      walk_at "go"
      rename_i p1 hp1 p2 hp2 p3 hp3
      exact q _ _ (ex_free (show Ex H _ by walk_at "ex") hp3) (by walk_at "ex") (by rw [upd_same]; unfold vwW; rw [hd]; rfl)
theorem ok__law_view_body (T : Txt P K mg a) : FnOk P w K mg base CX0 2 a.f__law_view_body a.d__law_view_body ["_law_view_here"] (sp__law_view_body K) := by
  refine T.F__law_view_body.ok sc__law_view_body (fun vs H Q E h => ?len) (fun cdv A outer s H vs Q E hr h => ?body)
  case len => obtain ⟨p, v, rfl, _⟩ := h; rfl
  case body =>
    obtain ⟨p, v, rfl, hV, hok, q⟩ := h
    have hl := vwW_len hok
    refine ⟨_, (pss_one (ps_ret (pe_bmK (K := K) rfl PySem.F.plainAttrs_str PySem.F.slot_str_join PySem.F.type_str_join (mt_joinK (K := K) rfl) pe_str (pa_cons (pe_op op_cat (pe_lst (pa_cons pe_str pa_nil)) (pe_call (ok__law_view_words T) (hr.mono (by decide)) (by rfl) T.g__law_view_words T.F__law_view_words.kp T.b__law_view_words .nil pass0 (pa_cons (pv 0) pa_nil))) pa_nil)))), ?_⟩
    try dsimp only [cxOf, Cx.nox]
    walk_at "go"
    rename_i p1 hp1
    refine ⟨p, v, rfl, hV.mono (Evl.Ex.new hp1), hok, fun p2 H2 hp2 hE2 hA2 => ?_⟩
    have hE : Ex H H2 := by walk_at "ex"
    have h12 := hE2 _ _ (show upd H p1 (.lst [V.str "view"]) p1 = some (.lst [V.str "view"]) from upd_same)
    have hm : ((vwW v).map V.str).length ≤ 102 := by rw [List.length_map]; exact hl.1
    clear hp1 hE2
    walk_at "go"
    rename_i p3 hp3
    have e : ([V.str "view"] ++ (vwW v).map V.str) = ((("view" : Str) :: vwW v).map V.str) := rfl
    rw [e]
    refine g_join (.inl (.inl upd_same)) (join_ok (by rw [List.length_cons]; omega) fun z hz => ?_) ?_
    · rcases List.mem_cons.mp hz with rfl | hz
      · decide +kernel
      · have := hl.2 z hz; omega
    · exact q _ (by walk_at "ex")
theorem ok__law_head_body (T : Txt P K mg a) : FnOk P w K mg base CX0 2 a.f__law_head_body a.d__law_head_body ["_law_rows", "_law_entries", "_law_moment", "_law_view_here"] (sp__law_head_body K) := by
  refine T.F__law_head_body.ok sc__law_head_body (fun vs H Q E h => ?len) (fun cdv A outer s H vs Q E hr h => ?body)
  case len => obtain ⟨l, e, mo, x, v, rows, rfl, _⟩ := h; rfl
  case body =>
    obtain ⟨l, e, mo, x, v, rows, rfl, hR, hrl, hV, he, hmo, hv, q⟩ := h
    have he0 : 0 ≤ e := he.1
    have he1 : e < 10000000000000 := he.2
    have hm : small (rows.length : Int) := ⟨by omega, by omega⟩
    have l1 := small_len hm
    have l2 := small_len he
    have l3 := numW_len hmo
    refine ⟨_, (pss_cons (ps_set (i := 4) sc__law_head_body.nd rfl (Or.inl rfl) (pe_lst (pa_cons pe_str (pa_cons (pe_callTy call_strIN (by rfl) T.z_str (by decide +kernel) (pa_cons (pe_callB (call_lenK (K := K) rfl) (by rfl) T.z_len (by decide +kernel) (pa_cons (pv 0) pa_nil)) pa_nil)) (pa_cons (pe_callTy call_strIN (by rfl) T.z_str (by decide +kernel) (pa_cons (pv 1) pa_nil)) (pa_cons (pe_ifExp (pt_cmpR op_isNN (pv 2) pe_non (nomark _)) pe_str (pe_callTy call_strV (by rfl) T.z_str (by decide +kernel) (pa_cons (pv 2) pa_nil))) pa_nil))))))
  (pss_cons (ps_if (pt_cmpR op_notNN (pv 3) pe_non (nomark _))
   (pss_one (ps_set (i := 4) sc__law_head_body.nd rfl (Or.inl rfl) (pe_op op_cat (pv 4) (pe_call (ok__law_view_words T) (hr.mono (by decide)) (by rfl) T.g__law_view_words T.F__law_view_words.kp T.b__law_view_words .nil pass0 (pa_cons (pv 3) pa_nil)))))
   pss_nil)
  (pss_one (ps_ret (pe_bmK (K := K) rfl PySem.F.plainAttrs_str PySem.F.slot_str_join PySem.F.type_str_join (mt_joinK (K := K) rfl) pe_str (pa_cons (pv 4) pa_nil)))))), ?_⟩
    try dsimp only [cxOf, Cx.nox]
    walk_at "go"
    have hkeep : (("keep" : Str).length ≤ 16000) := by decide +kernel
    cases mo with
    | none =>
      rw [oN_none]
      refine w_dec (fun _ => ?_) (fun h => absurd rfl h)
      walk_at "go"
      rename_i p1 hp1
      have hV1 := hV.mono (Evl.Ex.new hp1 (o := .lst [V.str "keep", V.str (toString (rows.length : Int)), V.str (toString e), V.str (numW none)]))
      have hA1 : (upd H p1 (.lst [V.str "keep", V.str (toString (rows.length : Int)), V.str (toString e), V.str (numW none)])) p1 = some (.lst [V.str "keep", V.str (toString (rows.length : Int)), V.str (toString e), V.str (numW none)]) := upd_same
      have hE2 := Evl.Ex.new hp1 (o := .lst [V.str "keep", V.str (toString (rows.length : Int)), V.str (toString e), V.str (numW none)])
      have hWW : ("none" : Str) = numW none := rfl
      rw [hWW]
      generalize upd H p1 (.lst [V.str "keep", V.str (toString (rows.length : Int)), V.str (toString e), V.str (numW none)]) = H2 at *
      clear hp1 hWW
      cases v with
      | none =>
        rw [show x = .non from hV1]
        refine w_ndec (fun h => absurd rfl h) (fun _ => ?_)
        walk_at "go"
        have e4 : [V.str "keep", V.str (toString (rows.length : Int)), V.str (toString e), V.str (numW none)] = (hdW (rows.length : Int) e none none).map V.str := rfl
        rw [e4] at hA1
        refine g_join (.inl (.inl hA1)) (join_ok (by show 4 ≤ 300; omega) fun z hz => ?_) ?_
        · have hz : z ∈ [("keep" : Str), (toString (rows.length : Int) : Str), (toString e : Str), numW none] := hz
          simp only [List.mem_cons, List.not_mem_nil, or_false] at hz
          rcases hz with rfl | rfl | rfl | rfl <;> omega
        · exact q _ hE2
      | some u =>
        obtain ⟨pv, ex, hv1⟩ := hV1
        rw [ex]
        have hu := hv u rfl
        have hl := vwW_len hu
        have hml : ((vwW u).map V.str).length ≤ 102 := by rw [List.length_map]; exact hl.1
        refine w_ndec (fun _ => ?_) (fun h => nomatch h)
        walk_at "go"
        refine ⟨pv, u, rfl, hv1, hu, fun p2 H3 hp2 hE3 hA3 => ?_⟩
        have hA2 := hE3 _ _ hA1
        clear hA1
        walk_at "go"
        rename_i p4 hp4
        have e4 : [V.str "keep", V.str (toString (rows.length : Int)), V.str (toString e), V.str (numW none)] ++ (vwW u).map V.str = (hdW (rows.length : Int) e none (some u)).map V.str := rfl
        rw [e4]
        refine g_join (.inl (.inl upd_same)) (join_ok (by show (vwW u).length + 4 ≤ 300; omega) fun z hz => ?_) ?_
        · have hz : z ∈ [("keep" : Str), (toString (rows.length : Int) : Str), (toString e : Str), numW none] ++ vwW u := hz
          rcases List.mem_append.mp hz with hz | hz
          · simp only [List.mem_cons, List.not_mem_nil, or_false] at hz
            rcases hz with rfl | rfl | rfl | rfl <;> omega
          · have := hl.2 z hz; omega
        · exact q _ (by walk_at "ex")
    | some i =>
      have hi := hmo i rfl
      have hi0 : 0 ≤ i := hi.1
      have hi1 : i < 10000000000000 := hi.2
      rw [oN_some]
      refine w_dec (fun h => nomatch h) (fun _ => ?_)
      walk_at "go"
      refine .inl ⟨i, rfl, log_small (by omega), ?_⟩
      walk_at "go"
      rename_i p1 hp1
      have hV1 := hV.mono (Evl.Ex.new hp1 (o := .lst [V.str "keep", V.str (toString (rows.length : Int)), V.str (toString e), V.str (numW (some i))]))
      have hA1 : (upd H p1 (.lst [V.str "keep", V.str (toString (rows.length : Int)), V.str (toString e), V.str (numW (some i))])) p1 = some (.lst [V.str "keep", V.str (toString (rows.length : Int)), V.str (toString e), V.str (numW (some i))]) := upd_same
      have hE2 := Evl.Ex.new hp1 (o := .lst [V.str "keep", V.str (toString (rows.length : Int)), V.str (toString e), V.str (numW (some i))])
      have hWW : (toString i : Str) = numW (some i) := rfl
      rw [hWW]
      generalize upd H p1 (.lst [V.str "keep", V.str (toString (rows.length : Int)), V.str (toString e), V.str (numW (some i))]) = H2 at *
      clear hp1 hWW
      cases v with
      | none =>
        rw [show x = .non from hV1]
        refine w_ndec (fun h => absurd rfl h) (fun _ => ?_)
        walk_at "go"
        have e4 : [V.str "keep", V.str (toString (rows.length : Int)), V.str (toString e), V.str (numW (some i))] = (hdW (rows.length : Int) e (some i) none).map V.str := rfl
        rw [e4] at hA1
        refine g_join (.inl (.inl hA1)) (join_ok (by show 4 ≤ 300; omega) fun z hz => ?_) ?_
        · have hz : z ∈ [("keep" : Str), (toString (rows.length : Int) : Str), (toString e : Str), numW (some i)] := hz
          simp only [List.mem_cons, List.not_mem_nil, or_false] at hz
          rcases hz with rfl | rfl | rfl | rfl <;> omega
        · exact q _ hE2
      | some u =>
        obtain ⟨pv, ex, hv1⟩ := hV1
        rw [ex]
        have hu := hv u rfl
        have hl := vwW_len hu
        have hml : ((vwW u).map V.str).length ≤ 102 := by rw [List.length_map]; exact hl.1
        refine w_ndec (fun _ => ?_) (fun h => nomatch h)
        walk_at "go"
        refine ⟨pv, u, rfl, hv1, hu, fun p2 H3 hp2 hE3 hA3 => ?_⟩
        have hA2 := hE3 _ _ hA1
        clear hA1
        walk_at "go"
        rename_i p4 hp4
        have e4 : [V.str "keep", V.str (toString (rows.length : Int)), V.str (toString e), V.str (numW (some i))] ++ (vwW u).map V.str = (hdW (rows.length : Int) e (some i) (some u)).map V.str := rfl
        rw [e4]
        refine g_join (.inl (.inl upd_same)) (join_ok (by show (vwW u).length + 4 ≤ 300; omega) fun z hz => ?_) ?_
        · have hz : z ∈ [("keep" : Str), (toString (rows.length : Int) : Str), (toString e : Str), numW (some i)] ++ vwW u := hz
          rcases List.mem_append.mp hz with hz | hz
          · simp only [List.mem_cons, List.not_mem_nil, or_false] at hz
            rcases hz with rfl | rfl | rfl | rfl <;> omega
          · have := hl.2 z hz; omega
        · exact q _ (by walk_at "ex")
theorem ok__law_row_body (T : Txt P K mg a) : FnOk P w K mg base CX0 1 a.f__law_row_body a.d__law_row_body ["_law_row_here"] (sp__law_row_body K) := by
  refine T.F__law_row_body.ok sc__law_row_body (fun vs H Q E h => ?len) (fun cdv A outer s H vs Q E hr h => ?body)
  case len => obtain ⟨p, r, rfl, _⟩ := h; rfl
  case body =>
    obtain ⟨p, r, rfl, hV, hok, q⟩ := h
    obtain ⟨pl, h1, h2⟩ := id hV
    have hc0 : 0 ≤ r.c := hok.c.1
    have hc1 : r.c < 10000000000000 := hok.c.2
    have hm0 : 0 ≤ r.m := hok.m.1
    have hm1 : r.m < 10000000000000 := hok.m.2
    have l1 := small_len hok.c
    have l2 := small_len hok.m
    have l3 := soonW_len hok.e
    have l4 := hok.k
    have l5 := hok.g
    have l6 := hok.l
    have lk : ("key" : Str).length ≤ 16000 := by decide +kernel
    have lr : ("refused" : Str).length ≤ 16000 := by decide +kernel
    have lb : ("back" : Str).length ≤ 16000 := by decide +kernel
    have ll : ("let" : Str).length ≤ 16000 := by decide +kernel
    refine ⟨_, (pss_cons (ps_set (i := 1) sc__law_row_body.nd rfl (Or.inl rfl) (pe_lst (pa_cons pe_str (pa_cons (pe_ix (ix_tupK (K := K) rfl) (pv 0) pe_int (fun _ _ => rfl)) (pa_cons (pe_ix (ix_tupK (K := K) rfl) (pv 0) pe_int (fun _ _ => rfl)) (pa_cons (pe_callTy call_strIN (by rfl) T.z_str (by decide +kernel) (pa_cons (pe_ix (ix_tupK (K := K) rfl) (pv 0) pe_int (fun _ _ => rfl)) pa_nil)) (pa_cons (pe_callTy call_strIN (by rfl) T.z_str (by decide +kernel) (pa_cons (pe_ix (ix_tupK (K := K) rfl) (pv 0) pe_int (fun _ _ => rfl)) pa_nil)) pa_nil)))))))
  (pss_cons (ps_if (pt_cmpR op_gt (pe_callB (call_lenK (K := K) rfl) (by rfl) T.z_len (by decide +kernel) (pa_cons (pe_ix (ix_tupK (K := K) rfl) (pv 0) pe_int (fun _ _ => rfl)) pa_nil)) pe_int (nomark _))
   (pss_one (ps_set (i := 1) sc__law_row_body.nd rfl (Or.inl rfl) (pe_op op_cat (pv 1) (pe_lst (pa_cons pe_str (pa_cons (pe_ifExp (pt_cmpR op_isNN (pe_ix (ix_tupK (K := K) rfl) (pv 0) pe_int (fun _ _ => rfl)) pe_non (nomark _)) pe_str (pe_callTy call_strV (by rfl) T.z_str (by decide +kernel) (pa_cons (pe_ix (ix_tupK (K := K) rfl) (pv 0) pe_int (fun _ _ => rfl)) pa_nil))) (pa_cons (pe_bmK (K := K) rfl PySem.F.plainAttrs_str PySem.F.slot_str_join PySem.F.type_str_join (mt_joinK (K := K) rfl) pe_str (pa_cons (pe_ix (ix_tupK (K := K) rfl) (pv 0) pe_int (fun _ _ => rfl)) pa_nil)) pa_nil)))))))
   (pss_one (ps_expr (pe_bmK (K := K) rfl PySem.F.plainAttrs_list PySem.F.slot_list_append PySem.F.type_list_append mt_append (pv 1) (pa_cons (pe_ix (ix_tupK (K := K) rfl) (pe_tup (pa_cons pe_str (pa_cons pe_str pa_nil))) (pe_callTy call_intB (by rfl) T.z_int (by decide +kernel) (pa_cons (pe_ix (ix_tupK (K := K) rfl) (pv 0) pe_int (fun _ _ => rfl)) pa_nil)) (fun _ _ => rfl)) pa_nil)))))
  (pss_one (ps_ret (pe_bmK (K := K) rfl PySem.F.plainAttrs_str PySem.F.slot_str_join PySem.F.type_str_join (mt_joinK (K := K) rfl) pe_str (pa_cons (pv 1) pa_nil)))))), ?_⟩
    try dsimp only [cxOf, Cx.nox]
    walk_at "go"
    rename_i p1 hp1
    have hA1 : (upd H p1 (.lst [V.str "key", V.str r.k, V.str r.g, V.str (toString r.c), V.str (toString r.m)])) p1 = some (.lst [V.str "key", V.str r.k, V.str r.g, V.str (toString r.c), V.str (toString r.m)]) := upd_same
    have hE1 := Evl.Ex.new hp1 (o := .lst [V.str "key", V.str r.k, V.str r.g, V.str (toString r.c), V.str (toString r.m)])
    rw [List.length_map]
    refine w_dec (fun h3 => ?_) (fun h3 => ?_)
    · have h11 := ex_sqT hE1 h1
      have h21 := ex_sqT hE1 h2
      generalize upd H p1 (.lst [V.str "key", V.str r.k, V.str r.g, V.str (toString r.c), V.str (toString r.m)]) = H1 at *
      clear hp1
      walk_at "go"
      have hjn : ((r.lk.map (·.length)).sum + r.lk.length * (",": Str).length ≤ 16777216) := by
        have h7 := sum_len hok.h
        have h8 : 1000 * r.lk.length ≤ 1000 * 100 := Nat.mul_le_mul_left _ l6
        rw [show ("," : Str).length = 1 from rfl]
        omega
      have hjl : (Txt.join "," r.lk).length ≤ 1001 * r.lk.length := join_len hok.h
      have hjm : 1001 * r.lk.length ≤ 1001 * 100 := Nat.mul_le_mul_left _ l6
      have hkw : krW r = [("key" : Str), r.k, r.g, (toString r.c : Str), (toString r.m : Str), "refused", soonW r.e, Txt.join "," r.lk] := by
        unfold krW wdOf
        rw [if_pos (by omega), if_pos (by omega)]
        rfl
      have hfits : ((krW r).map (·.length)).sum + (krW r).length * (" " : Str).length ≤ 16777216 := by
        have h9 : ∀ z ∈ krW r, z.length ≤ 200000 := fun z hz => by
          rw [hkw] at hz
          simp only [List.mem_cons, List.not_mem_nil, or_false] at hz
          rcases hz with rfl | rfl | rfl | rfl | rfl | rfl | rfl | rfl <;> omega
        have h10 := sum_len h9
        have h11 : (krW r).length = 8 := by rw [hkw]; rfl
        rw [h11] at h10 ⊢
        rw [show (" " : Str).length = 1 from rfl]
        omega
      cases he : r.e with
      | none =>
        rw [he, oN_none] at h11
        rw [oN_none]
        refine w_dec (fun _ => ?_) (fun h => absurd rfl h)
        walk_at "go"
        refine ⟨_, _, _, rfl, rfl, .inr h21, hjn, ?_⟩
        walk_at "go"
        rename_i p2 hp2 p3 hp3
        have e5 : ("never" : Str) = soonW r.e := by rw [he]; rfl
        rw [e5] at hp3 ⊢
        have e4 : [V.str "key", V.str r.k, V.str r.g, V.str (toString r.c), V.str (toString r.m)] ++ [V.str "refused", V.str (soonW r.e), V.str (Txt.join "," r.lk)] = (krW r).map V.str := by rw [hkw]; rfl
        rw [e4]
        refine g_join (.inl (.inl upd_same)) hfits ?_
        exact q _ (by walk_at "ex")
      | some i =>
        have hi := hok.e i he
        have hi0 : 0 ≤ i := hi.1
        have hi1 : i < 10000000000000 := hi.2
        rw [he, oN_some] at h11
        rw [oN_some]
        refine w_dec (fun h => nomatch h) (fun _ => ?_)
        walk_at "go"
        refine .inl ⟨i, rfl, log_small (by omega), ?_⟩
        walk_at "go"
        refine ⟨_, _, _, rfl, rfl, .inr h21, hjn, ?_⟩
        walk_at "go"
        rename_i p2 hp2 p3 hp3
        have e5 : (toString i : Str) = soonW r.e := by rw [he]; rfl
        rw [e5] at hp3 ⊢
        have e4 : [V.str "key", V.str r.k, V.str r.g, V.str (toString r.c), V.str (toString r.m)] ++ [V.str "refused", V.str (soonW r.e), V.str (Txt.join "," r.lk)] = (krW r).map V.str := by rw [hkw]; rfl
        rw [e4]
        refine g_join (.inl (.inl upd_same)) hfits ?_
        exact q _ (by walk_at "ex")
    · have hl0 : ¬ r.lk.length > 0 := by omega
      have hkw : ∀ u : Str, wdOf r = u → krW r = [("key" : Str), r.k, r.g, (toString r.c : Str), (toString r.m : Str), u] := fun u hu => by
        unfold krW
        rw [if_neg hl0, hu]
        rfl
      have hfits : ∀ u : Str, u.length ≤ 16000 → wdOf r = u → ((krW r).map (·.length)).sum + (krW r).length * (" " : Str).length ≤ 16777216 := fun u hu hw => join_ok (by rw [hkw u hw]; show 6 ≤ 300; omega) fun z hz => by
        rw [hkw u hw] at hz
        simp only [List.mem_cons, List.not_mem_nil, or_false] at hz
        rcases hz with rfl | rfl | rfl | rfl | rfl | rfl <;> omega
      cases hb : r.b with
      | true =>
        rw [hb] at h1
        have hw : wdOf r = "back" := by unfold wdOf; rw [if_neg hl0, if_pos hb]
        walk_at "go"
        rename_i p2 hp2
        have e4 : [V.str "key", V.str r.k, V.str r.g, V.str (toString r.c), V.str (toString r.m)] ++ [V.str "back"] = (krW r).map V.str := by rw [hkw _ hw]; rfl
        rw [e4]
        refine g_join (.inl (.inl upd_same)) (hfits _ lb hw) ?_
        exact q _ (Evl.Ex.mut (by walk_at "ex") hp1)
      | false =>
        rw [hb] at h1
        have hw : wdOf r = "let" := by unfold wdOf; rw [if_neg hl0, if_neg (by rw [hb]; exact Bool.false_ne_true)]
        walk_at "go"
        rename_i p2 hp2
        have e4 : [V.str "key", V.str r.k, V.str r.g, V.str (toString r.c), V.str (toString r.m)] ++ [V.str "let"] = (krW r).map V.str := by rw [hkw _ hw]; rfl
        rw [e4]
        refine g_join (.inl (.inl upd_same)) (hfits _ ll hw) ?_
        exact q _ (Evl.Ex.mut (by walk_at "ex") hp1)
theorem ok__law_view (T : Txt P K mg a) : FnOk P w K mg base CX0 2 a.f__law_view a.d__law_view ["_law_numbers_here", "_law_at"] (sp__law_view K) := by
  refine T.F__law_view.ok sc__law_view (fun vs H Q E h => ?len) (fun cdv A outer s H vs Q E hr h => ?body)
  case len => obtain ⟨l, ns, at_, rfl, _⟩ := h; rfl
  case body =>
    obtain ⟨l, ns, at_, rfl, hS, h9, ha0, ha1, q⟩ := h
    have b0 := h9.at (Int.toNat at_) (show at_.toNat < ns.length by omega)
    have b1 := h9.at (Int.toNat (at_ + 1)) (show (at_ + 1).toNat < ns.length by omega)
    have b2 := h9.at (Int.toNat (at_ + 2)) (show (at_ + 2).toNat < ns.length by omega)
    refine ⟨_, (pss_cons (ps_set (i := 2) sc__law_view.nd rfl (Or.inl rfl) (pe_op op_mod (pe_callTy call_intI (by rfl) T.z_int (by decide +kernel) (pa_cons (pe_op op_mul (pe_ix (ix_listK (K := K) rfl) (pv 0) (pe_op op_add (pv 1) pe_int) (fun _ _ => rfl)) pe_int) pa_nil)) pe_int))
  (pss_cons (ps_if (pt_cmpR op_eq (pe_op op_mod (pe_callTy call_intI (by rfl) T.z_int (by decide +kernel) (pa_cons (pe_ix (ix_listK (K := K) rfl) (pv 0) (pe_op op_add (pv 1) pe_int) (fun _ _ => rfl)) pa_nil)) pe_int) pe_int (nomark _))
   (pss_one (ps_set (i := 2) sc__law_view.nd rfl (Or.inl rfl) pe_non))
   pss_nil)
  (pss_cons (ps_set (i := 3) sc__law_view.nd rfl (Or.inl rfl) (pe_op op_mod (pe_callTy call_intI (by rfl) T.z_int (by decide +kernel) (pa_cons (pe_op op_mul (pe_ix (ix_listK (K := K) rfl) (pv 0) (pv 1) (fun _ _ => rfl)) pe_int) pa_nil)) pe_int))
  (pss_one (ps_ret (pe_tup (pa_cons (pv 3) (pa_cons (pv 2) (pa_cons (pe_call (ok__law_names T) (hr.mono (by decide)) (by rfl) T.g__law_names T.F__law_names.kp T.b__law_names .nil pass0 (pa_cons (pv 0) (pa_cons (pe_op op_add (pv 1) pe_int) (pa_cons (pe_op op_add pe_int (pe_op op_mod (pe_callTy call_intI (by rfl) T.z_int (by decide +kernel) (pa_cons (pe_ix (ix_listK (K := K) rfl) (pv 0) (pe_op op_add (pv 1) pe_int) (fun _ _ => rfl)) pa_nil)) pe_int)) pa_nil)))) pa_nil))))))))), ?_⟩
    try dsimp only [cxOf, Cx.nox]
    walk_at "go"
    refine w_dec (fun h1 => ?_) (fun h1 => ?_)
    · walk_at "go"
      refine ⟨l, ns, at_ + 3, 1 + ns.getD (at_ + 2).toNat 0 % 8, rfl, hS, h9, by omega, by omega, by omega, by omega, by omega, fun pz zs H1 hE1 hZ hnd hnm hzl => ?_⟩
      walk_at "go"
      rename_i pV hpV
      exact q pV ⟨ns.getD at_.toNat 0 * 997 % 1000000, none, zs⟩ _ (hE1.trans (Evl.Ex.new hpV)) ⟨pz, .inl (.inl upd_same), by walk_at "sq"⟩ ⟨(by show 0 ≤ ns.getD at_.toNat 0 * 997 % 1000000; omega), (by show ns.getD at_.toNat 0 * 997 % 1000000 < 1000000; omega), (fun i hi => by cases hi), (by show 1 ≤ zs.length; omega), (by show zs.length ≤ 8; omega), hnd, hnm⟩
    · walk_at "go"
      refine ⟨l, ns, at_ + 3, 1 + ns.getD (at_ + 2).toNat 0 % 8, rfl, hS, h9, by omega, by omega, by omega, by omega, by omega, fun pz zs H1 hE1 hZ hnd hnm hzl => ?_⟩
      walk_at "go"
      rename_i pV hpV
      exact q pV ⟨ns.getD at_.toNat 0 * 997 % 1000000, some (ns.getD (at_ + 1).toNat 0 * 991 % 1000000), zs⟩ _ (hE1.trans (Evl.Ex.new hpV)) ⟨pz, .inl (.inl upd_same), by walk_at "sq"⟩ ⟨(by show 0 ≤ ns.getD at_.toNat 0 * 997 % 1000000; omega), (by show ns.getD at_.toNat 0 * 997 % 1000000 < 1000000; omega), (fun i hi => by cases hi; omega), (by show 1 ≤ zs.length; omega), (by show zs.length ≤ 8; omega), hnd, hnm⟩
theorem ok__law_wrong_bodies (T : Txt P K mg a) : FnOk P w K mg base CX0 1 a.f__law_wrong_bodies a.d__law_wrong_bodies [] (sp__law_wrong_bodies K) := by
  refine T.F__law_wrong_bodies.ok sc__law_wrong_bodies (fun vs H Q E h => ?len) (fun cdv A outer s H vs Q E hr h => ?body)
  case len => obtain ⟨rfl, _⟩ := h; rfl
  case body =>
    obtain ⟨rfl, q⟩ := h
    refine ⟨_, (pss_cons (ps_set (i := 0) sc__law_wrong_bodies.nd rfl (Or.inl rfl) (pe_lst (pa_cons pe_str (pa_cons pe_str (pa_cons pe_str (pa_cons pe_str (pa_cons pe_str (pa_cons pe_str (pa_cons pe_str (pa_cons pe_str pa_nil))))))))))
  (pss_cons (ps_set (i := 0) sc__law_wrong_bodies.nd rfl (Or.inl rfl) (pe_op op_cat (pv 0) (pe_lst (pa_cons pe_str (pa_cons pe_str (pa_cons pe_str (pa_cons pe_str (pa_cons pe_str pa_nil))))))))
  (pss_cons (ps_set (i := 0) sc__law_wrong_bodies.nd rfl (Or.inl rfl) (pe_op op_cat (pv 0) (pe_lst (pa_cons pe_str (pa_cons pe_str (pa_cons pe_str (pa_cons pe_str (pa_cons pe_str pa_nil))))))))
  (pss_cons (ps_set (i := 0) sc__law_wrong_bodies.nd rfl (Or.inl rfl) (pe_op op_cat (pv 0) (pe_lst (pa_cons pe_str (pa_cons pe_str (pa_cons pe_str (pa_cons pe_str (pa_cons pe_str pa_nil))))))))
  (pss_cons (ps_set (i := 0) sc__law_wrong_bodies.nd rfl (Or.inl rfl) (pe_op op_cat (pv 0) (pe_lst (pa_cons pe_str (pa_cons pe_str (pa_cons pe_str (pa_cons pe_str (pa_cons pe_str pa_nil))))))))
  (pss_cons (ps_set (i := 0) sc__law_wrong_bodies.nd rfl (Or.inl rfl) (pe_op op_cat (pv 0) (pe_lst (pa_cons pe_str (pa_cons pe_str (pa_cons pe_str (pa_cons pe_str pa_nil)))))))
  (pss_cons (ps_set (i := 0) sc__law_wrong_bodies.nd rfl (Or.inl rfl) (pe_op op_cat (pv 0) (pe_lst (pa_cons pe_str (pa_cons pe_str (pa_cons pe_str (pa_cons pe_str pa_nil)))))))
  (pss_cons (ps_set (i := 0) sc__law_wrong_bodies.nd rfl (Or.inl rfl) (pe_op op_cat (pv 0) (pe_lst (pa_cons pe_str (pa_cons pe_str (pa_cons pe_str pa_nil))))))
  (pss_cons (ps_set (i := 0) sc__law_wrong_bodies.nd rfl (Or.inl rfl) (pe_op op_cat (pv 0) (pe_lst (pa_cons pe_str (pa_cons pe_str (pa_cons pe_str pa_nil))))))
  (pss_cons (ps_set (i := 0) sc__law_wrong_bodies.nd rfl (Or.inl rfl) (pe_op op_cat (pv 0) (pe_lst (pa_cons pe_str (pa_cons pe_str (pa_cons pe_str (pa_cons pe_str (pa_cons pe_str pa_nil))))))))
  (pss_cons (ps_set (i := 0) sc__law_wrong_bodies.nd rfl (Or.inl rfl) (pe_op op_cat (pv 0) (pe_lst (pa_cons pe_str (pa_cons pe_str (pa_cons pe_str (pa_cons pe_str (pa_cons pe_str pa_nil))))))))
  (pss_cons (ps_set (i := 0) sc__law_wrong_bodies.nd rfl (Or.inl rfl) (pe_op op_cat (pv 0) (pe_lst (pa_cons pe_str (pa_cons pe_str (pa_cons pe_str (pa_cons pe_str (pa_cons pe_str pa_nil))))))))
  (pss_one (ps_ret (pe_op op_cat (pv 0) (pe_lst (pa_cons pe_str (pa_cons pe_str (pa_cons pe_str (pa_cons pe_str (pa_cons pe_str (pa_cons pe_str (pa_cons pe_str pa_nil))))))))))))))))))))))), ?_⟩
    try dsimp only [cxOf, Cx.nox]
    walk_at "go"
    rename_i hp
    exact q _ _ (ex_free (show Ex H _ by walk_at "ex") hp) (by walk_at "ex") (by rw [upd_same]; rfl)
theorem ok__law_keeper_row (T : Txt P K mg a) : FnOk P w K mg base CX0 2 a.f__law_keeper_row a.d__law_keeper_row ["_law_numbers_here", "_law_at"] (sp__law_keeper_row K) := by
  refine T.F__law_keeper_row.ok sc__law_keeper_row (fun vs H Q E h => ?len) (fun cdv A outer s H vs Q E hr h => ?body)
  case len => obtain ⟨l, ns, at_, rfl, _⟩ := h; rfl
  case body =>
    obtain ⟨l, ns, at_, rfl, hS, h9, ha0, ha1, q⟩ := h
    have b0 := h9.at (Int.toNat at_) (show at_.toNat < ns.length by omega)
    have b2 := h9.at (Int.toNat (at_ + 2)) (show (at_ + 2).toNat < ns.length by omega)
    have b3 := h9.at (Int.toNat (at_ + 3)) (show (at_ + 3).toNat < ns.length by omega)
    have b4 := h9.at (Int.toNat (at_ + 4)) (show (at_ + 4).toNat < ns.length by omega)
    have b5 := h9.at (Int.toNat (at_ + 5)) (show (at_ + 5).toNat < ns.length by omega)
    obtain ⟨n0, hn0⟩ : ∃ n, n = ns.getD at_.toNat 0 := ⟨_, rfl⟩
    obtain ⟨n2, hn2⟩ : ∃ n, n = ns.getD (at_ + 2).toNat 0 := ⟨_, rfl⟩
    obtain ⟨n3, hn3⟩ : ∃ n, n = ns.getD (at_ + 3).toNat 0 := ⟨_, rfl⟩
    obtain ⟨n4, hn4⟩ : ∃ n, n = ns.getD (at_ + 4).toNat 0 := ⟨_, rfl⟩
    obtain ⟨n5, hn5⟩ : ∃ n, n = ns.getD (at_ + 5).toNat 0 := ⟨_, rfl⟩
    rw [← hn0] at b0
    rw [← hn2] at b2
    rw [← hn3] at b3
    rw [← hn4] at b4
    rw [← hn5] at b5
    obtain ⟨kz, hkz, hk⟩ : ∃ z : Str, atI [V.str "job-1", V.str "-", V.str (repS (Int.toNat 20) "a"), V.str "0"] (n0 % 4) = some (.str z) ∧ isKey z = true := by
      have h0 : 0 ≤ n0 % 4 := by omega
      have h4 : n0 % 4 < 4 := by omega
      generalize n0 % 4 = m at *
      have c4 : m = 0 ∨ m = 1 ∨ m = 2 ∨ m = 3 := by omega
      rcases c4 with rfl | rfl | rfl | rfl
      · exact ⟨"job-1", rfl, by decide +kernel⟩
      · exact ⟨"-", rfl, by decide +kernel⟩
      · exact ⟨repS (Int.toNat 20) "a", rfl, by decide +kernel⟩
      · exact ⟨"0", rfl, by decide +kernel⟩
    obtain ⟨cz, hcz, hc0, hc1⟩ : ∃ c : Int, atI [V.int 1, V.int 1000, V.int (1 + n2 / 2)] (n2 % 3) = some (.int c) ∧ 1 ≤ c ∧ c ≤ 1000 := by
      have h0 : 0 ≤ n2 % 3 := by omega
      have h4 : n2 % 3 < 3 := by omega
      have h5 : 1 + n2 / 2 ≤ 1000 := by omega
      have h6 : 1 ≤ 1 + n2 / 2 := by omega
      generalize n2 % 3 = m at *
      have c4 : m = 0 ∨ m = 1 ∨ m = 2 := by omega
      rcases c4 with rfl | rfl | rfl
      · exact ⟨1, rfl, by omega, by omega⟩
      · exact ⟨1000, rfl, by omega, by omega⟩
      · exact ⟨_, rfl, h6, h5⟩
    obtain ⟨mz, hmz, hm0, hm1⟩ : ∃ c : Int, atI [V.int 0, V.int (10 ^ (9 : Int).toNat), V.int (n3 * 991)] (n3 % 3) = some (.int c) ∧ 0 ≤ c ∧ c ≤ 1000000000 := by
      have h0 : 0 ≤ n3 % 3 := by omega
      have h4 : n3 % 3 < 3 := by omega
      have h5 : n3 * 991 ≤ 1000000000 := by omega
      have h6 : 0 ≤ n3 * 991 := by omega
      generalize n3 % 3 = m at *
      have c4 : m = 0 ∨ m = 1 ∨ m = 2 := by omega
      rcases c4 with rfl | rfl | rfl
      · exact ⟨0, rfl, by omega, by omega⟩
      · exact ⟨10 ^ (9 : Int).toNat, rfl, by decide, by decide⟩
      · exact ⟨_, rfl, h6, h5⟩
    refine ⟨_, (pss_cons (ps_set (i := 2) sc__law_keeper_row.nd rfl (Or.inl rfl) (pe_ix (ix_tupK (K := K) rfl) (pe_tup (pa_cons pe_str (pa_cons pe_str (pa_cons (pe_op op_mulSN pe_str pe_int) (pa_cons pe_str pa_nil))))) (pe_op op_mod (pe_callTy call_intI (by rfl) T.z_int (by decide +kernel) (pa_cons (pe_ix (ix_listK (K := K) rfl) (pv 0) (pv 1) (fun _ _ => rfl)) pa_nil)) pe_int) (fun _ _ => rfl)))
  (pss_cons (ps_set (i := 3) sc__law_keeper_row.nd rfl (Or.inl rfl) (pe_ix (ix_tupK (K := K) rfl) (pe_call (ok__law_names T) (hr.mono (by decide)) (by rfl) T.g__law_names T.F__law_names.kp T.b__law_names .nil pass0 (pa_cons (pv 0) (pa_cons (pe_op op_add (pv 1) pe_int) (pa_cons pe_int pa_nil)))) pe_int (fun _ _ => rfl)))
  (pss_cons (ps_set (i := 4) sc__law_keeper_row.nd rfl (Or.inl rfl) (pe_ix (ix_tupK (K := K) rfl) (pe_tup (pa_cons pe_int (pa_cons pe_int (pa_cons (pe_op op_add pe_int (pe_op op_fdiv (pe_ix (ix_listK (K := K) rfl) (pv 0) (pe_op op_add (pv 1) pe_int) (fun _ _ => rfl)) pe_int)) pa_nil)))) (pe_op op_mod (pe_callTy call_intI (by rfl) T.z_int (by decide +kernel) (pa_cons (pe_ix (ix_listK (K := K) rfl) (pv 0) (pe_op op_add (pv 1) pe_int) (fun _ _ => rfl)) pa_nil)) pe_int) (fun _ _ => rfl)))
  (pss_cons (ps_set (i := 5) sc__law_keeper_row.nd rfl (Or.inl rfl) (pe_ix (ix_tupK (K := K) rfl) (pe_tup (pa_cons pe_int (pa_cons (pe_op op_pow pe_int pe_int) (pa_cons (pe_op op_mul (pe_ix (ix_listK (K := K) rfl) (pv 0) (pe_op op_add (pv 1) pe_int) (fun _ _ => rfl)) pe_int) pa_nil)))) (pe_op op_mod (pe_callTy call_intI (by rfl) T.z_int (by decide +kernel) (pa_cons (pe_ix (ix_listK (K := K) rfl) (pv 0) (pe_op op_add (pv 1) pe_int) (fun _ _ => rfl)) pa_nil)) pe_int) (fun _ _ => rfl)))
  (pss_cons (ps_set (i := 6) sc__law_keeper_row.nd rfl (Or.inl rfl) (pe_op op_mod (pe_callTy call_intI (by rfl) T.z_int (by decide +kernel) (pa_cons (pe_ix (ix_listK (K := K) rfl) (pv 0) (pe_op op_add (pv 1) pe_int) (fun _ _ => rfl)) pa_nil)) pe_int))
  (pss_cons (ps_if (pt_cmpR op_lt (pv 6) pe_int (nomark _))
   (pss_one (ps_ret (pe_tup (pa_cons (pv 2) (pa_cons (pv 3) (pa_cons (pe_callB (call_min2N rfl) (by rfl) T.z_min (by decide +kernel) (pa_cons pe_int (pa_cons (pv 4) pa_nil))) (pa_cons (pv 5) (pa_cons (pe_tup pa_nil) (pa_cons (pv 5) (pa_cons (pe_cmpR op_eq (pv 6) pe_int (nomark _)) pa_nil))))))))))
   pss_nil)
  (pss_cons (ps_set (i := 7) sc__law_keeper_row.nd rfl (Or.inl rfl) (pe_callTy (call_tupK (K := K) rfl) (by rfl) T.z_tuple (by decide +kernel) (pa_cons (pe_callB (cr_sortedUK (K := K) rfl hr.units) (by rfl) T.z_sorted (by decide +kernel) (pa_cons (pe_call (ok__law_names T) (hr.mono (by decide)) (by rfl) T.g__law_names T.F__law_names.kp T.b__law_names .nil pass0 (pa_cons (pv 0) (pa_cons (pe_op op_add (pv 1) pe_int) (pa_cons (pe_op op_add pe_int (pe_op op_mod (pe_callTy call_intI (by rfl) T.z_int (by decide +kernel) (pa_cons (pe_ix (ix_listK (K := K) rfl) (pv 0) (pe_op op_add (pv 1) pe_int) (fun _ _ => rfl)) pa_nil)) pe_int)) pa_nil)))) pa_nil)) pa_nil)))
  (pss_cons (ps_set (i := 8) sc__law_keeper_row.nd rfl (Or.inl rfl) (pe_op op_add (pe_op op_add (pv 5) pe_int) (pe_op op_mul (pe_ix (ix_listK (K := K) rfl) (pv 0) (pe_op op_add (pv 1) pe_int) (fun _ _ => rfl)) (pe_op op_pow pe_int pe_int))))
  (pss_cons (ps_if (pt_cmpR op_eq (pe_op op_mod (pe_callTy call_intI (by rfl) T.z_int (by decide +kernel) (pa_cons (pe_ix (ix_listK (K := K) rfl) (pv 0) (pe_op op_add (pv 1) pe_int) (fun _ _ => rfl)) pa_nil)) pe_int) pe_int (nomark _))
   (pss_one (ps_set (i := 8) sc__law_keeper_row.nd rfl (Or.inl rfl) pe_non))
   pss_nil)
  (pss_one (ps_ret (pe_tup (pa_cons (pv 2) (pa_cons (pv 3) (pa_cons (pe_callB (call_min2N rfl) (by rfl) T.z_min (by decide +kernel) (pa_cons pe_int (pa_cons (pv 4) pa_nil))) (pa_cons (pv 5) (pa_cons (pv 7) (pa_cons (pv 8) (pa_cons pe_bl pa_nil))))))))))))))))))), ?_⟩
    try dsimp only [cxOf, Cx.nox]
    walk_at "go"
    rw [← hn0]
    refine g_ixT (.inl (.inl upd_same)) hkz ?_
    walk_at "go"
    refine ⟨l, ns, at_ + 1, 1, rfl, by walk_at "sq", h9, by omega, by omega, by omega, by omega, by omega, fun pg gs H1 hE1 hG _ hgn hgl => ?_⟩
    obtain ⟨g, rfl⟩ : ∃ g, gs = [g] := by
      match gs, hgl with
      | [g], _ => exact ⟨g, rfl⟩
      | [], h => exact absurd h (by decide)
      | _ :: _ :: _, h => exact absurd h (by simp only [List.length_cons]; omega)
    have hgN := hgn g List.mem_cons_self
    have hG : SqT K H1 pg [.str g] := hG
    have hE01 : Ex H H1 := by walk_at "ex"
    have hS1 := ex_sqL hE01 hS
    clear hE1
    walk_at "go"
    rw [← hn2]
    refine g_ixT (.inl (.inl upd_same)) hcz ?_
    walk_at "go"
    rw [← hn3]
    refine g_ixT (.inl (.inl upd_same)) hmz ?_
    walk_at "go"
    rw [← hn4]
    obtain ⟨cm, hcm⟩ : ∃ c : Int, c = if cz < 1000 then cz else 1000 := ⟨_, rfl⟩
    have hcm0 : 1 ≤ cm := by rw [hcm]; split <;> omega
    have hcm1 : cm ≤ 1000 := by rw [hcm]; split <;> omega
    refine w_dec (fun h1 => ?_) (fun h1 => ?_)
    · walk_at "go"
      rename_i pe hpe pT hpT
      rw [← hcm]
      exact q pT ⟨kz, g, cm, mz, [], some mz, decide (n4 % 3 = 1)⟩ _ (by walk_at "ex") ⟨pe, .inl (.inl upd_same), by walk_at "sq"⟩ ⟨hk, hgN, hcm0, hcm1, hm0, hm1, .inl ⟨rfl, rfl⟩⟩
    walk_at "go"
    refine ⟨l, ns, at_ + 6, 1 + ns.getD (at_ + 5).toNat 0 % 8, rfl, by walk_at "sq", h9, by omega, by omega, by omega, by omega, by omega, fun pz zs H2 hE2 hZ hnd hnm hzl => ?_⟩
    have hE02 : Ex H H2 := by walk_at "ex"
    have hS2 := ex_sqL hE02 hS
    clear hE2
    walk_at "go"
    refine g_sortU hZ (by omega) (fun ys ps hperm hpw hps => ?_)
    have hyl := hperm.length_eq
    have hyn : ys.Nodup := hperm.nodup_iff.mpr hnd
    have hyN : ∀ z ∈ ys, isName z = true := fun z hz => hnm z (hperm.mem_iff.mp hz)
    have hya : ascB ys = true := ascB_of (asc_of hyn hpw)
    have hyne : ys ≠ [] := fun e => by rw [e] at hyl; simp at hyl; omega
    walk_at "go"
    rw [← hn5, ← hn4]
    have hn56 : n5 * 10 ^ Int.toNat 6 = n5 * 1000000 := rfl
    refine w_dec (fun h2 => ?_) (fun h2 => ?_)
    · walk_at "go"
      rename_i pu hpu pT hpT
      rw [← hcm]
      exact q pT ⟨kz, g, cm, mz, ys, none, false⟩ _ (by walk_at "ex") ⟨pu, .inl (.inl upd_same), by walk_at "sq"⟩ ⟨hk, hgN, hcm0, hcm1, hm0, hm1, .inr ⟨hyne, (by show ys.length ≤ 8; omega), hya, hyN, rfl, fun i hi => nomatch hi⟩⟩
    walk_at "go"
    rename_i pu hpu pT hpT
    rw [← hcm]
    exact q pT ⟨kz, g, cm, mz, ys, some (mz + 1 + n5 * 10 ^ Int.toNat 6), false⟩ _ (by walk_at "ex") ⟨pu, .inl (.inl upd_same), by walk_at "sq"⟩ ⟨hk, hgN, hcm0, hcm1, hm0, hm1, .inr ⟨hyne, (by show ys.length ≤ 8; omega), hya, hyN, rfl, fun i hi => (by cases hi; show mz < _ ∧ _; rw [hn56]; omega)⟩⟩
theorem ok_law (T : Txt P K mg a) : FnG P w K mg base CX0 6 a.f_law a.d_law ["_law_script"] (sp_law K) := by
  refine fun_okG T.F_law sc_law (fun vs H Q E h => ?len) (fun cdv A outer s H vs Q E hg hr h => ?body)
  case len => obtain ⟨l, xs, rfl, _⟩ := h; rfl
  case body =>
    obtain ⟨l, xs, rfl, hS, hx, q⟩ := h
    refine ⟨_, (pss_cons (ps_set (i := 1) sc_law.nd rfl (Or.inl rfl) (pe_call (ok__law_numbers T) (hr.mono (by decide)) (by rfl) T.g__law_numbers T.F__law_numbers.kp T.b__law_numbers .nil pass0 (pa_cons (pv 0) (pa_cons pe_int pa_nil))))
  (pss_cons (ps_set (i := 2) sc_law.nd rfl (Or.inl rfl) (pe_call (ok__law_view T) (hr.mono (by decide)) (by rfl) T.g__law_view T.F__law_view.kp T.b__law_view .nil pass0 (pa_cons (pv 1) (pa_cons pe_int pa_nil))))
  (pss_cons (ps_if (PW.pt (pw_or (pt_cmpR op_ne (pe_call (ok_view_body T) (hr.mono (by decide)) (by rfl) T.g_view_body T.F_view_body.kp T.b_view_body .nil pass0 (pa_cons (pv 2) pa_nil)) (pe_call (ok__law_view_body T) (hr.mono (by decide)) (by rfl) T.g__law_view_body T.F__law_view_body.kp T.b__law_view_body .nil pass0 (pa_cons (pv 2) pa_nil)) (nomark _)) (pw_or1 (pt_cmpR op_ne (pe_callB (call_reprD (K := K) rfl hg hr) (by rfl) T.z_repr (by decide +kernel) (pa_cons (pe_call (ok_read_body T) (hr.mono (by decide)) (by rfl) T.g_read_body T.F_read_body.kp T.b_read_body .nil pass0 (pa_cons (pe_call (ok__law_view_body T) (hr.mono (by decide)) (by rfl) T.g__law_view_body T.F__law_view_body.kp T.b__law_view_body .nil pass0 (pa_cons (pv 2) pa_nil)) pa_nil)) pa_nil)) (pe_callB (call_reprD (K := K) rfl hg hr) (by rfl) T.z_repr (by decide +kernel) (pa_cons (pe_tup (pa_cons pe_str (pa_cons (pv 2) pa_nil))) pa_nil)) (nomark _)))))
   (pss_one (ps_ret pe_bl))
   pss_nil)
  (pss_cons (ps_set (i := 3) sc_law.nd rfl (Or.inl rfl) (pe_call (ok__law_keeper_row T) (hr.mono (by decide)) (by rfl) T.g__law_keeper_row T.F__law_keeper_row.kp T.b__law_keeper_row .nil pass0 (pa_cons (pv 1) (pa_cons pe_int pa_nil))))
  (pss_cons (ps_if (PW.pt (pw_or (pt_cmpR op_ne (pe_call (ok_row_body T) (hr.mono (by decide)) (by rfl) T.g_row_body T.F_row_body.kp T.b_row_body .nil pass0 (pa_cons (pv 3) pa_nil)) (pe_call (ok__law_row_body T) (hr.mono (by decide)) (by rfl) T.g__law_row_body T.F__law_row_body.kp T.b__law_row_body .nil pass0 (pa_cons (pv 3) pa_nil)) (nomark _)) (pw_or1 (pt_cmpR op_ne (pe_callB (call_reprD (K := K) rfl hg hr) (by rfl) T.z_repr (by decide +kernel) (pa_cons (pe_call (ok_read_body T) (hr.mono (by decide)) (by rfl) T.g_read_body T.F_read_body.kp T.b_read_body .nil pass0 (pa_cons (pe_call (ok__law_row_body T) (hr.mono (by decide)) (by rfl) T.g__law_row_body T.F__law_row_body.kp T.b__law_row_body .nil pass0 (pa_cons (pv 3) pa_nil)) pa_nil)) pa_nil)) (pe_callB (call_reprD (K := K) rfl hg hr) (by rfl) T.z_repr (by decide +kernel) (pa_cons (pe_tup (pa_cons pe_str (pa_cons (pv 3) pa_nil))) pa_nil)) (nomark _)))))
   (pss_one (ps_ret pe_bl))
   pss_nil)
  (pss_cons (ps_set (i := 4) sc_law.nd rfl (Or.inl rfl) (pe_ix (ix_tupK (K := K) rfl) (pe_tup (pa_cons pe_non (pa_cons pe_int (pa_cons (pe_op op_mul (pe_ix (ix_listK (K := K) rfl) (pv 1) pe_int (fun _ _ => rfl)) pe_int) pa_nil)))) (pe_op op_mod (pe_callTy call_intI (by rfl) T.z_int (by decide +kernel) (pa_cons (pe_ix (ix_listK (K := K) rfl) (pv 1) pe_int (fun _ _ => rfl)) pa_nil)) pe_int) (fun _ _ => rfl)))
  (pss_cons (ps_for PassesOwn.never rfl (pi_listK (K := K) rfl (pe_lst (pa_cons pe_non (pa_cons (pv 2) pa_nil)))) (pg_name (i := 5) sc_law.nd rfl (Or.inl rfl))
   (pss_cons (ps_set (i := 6) sc_law.nd rfl (Or.inl rfl) (pe_tup (pa_cons (pe_op op_mod (pe_callTy call_intI (by rfl) T.z_int (by decide +kernel) (pa_cons (pe_op op_mul (pe_ix (ix_listK (K := K) rfl) (pv 1) pe_int (fun _ _ => rfl)) pe_int) pa_nil)) pe_int) (pa_cons (pe_ix (ix_listK (K := K) rfl) (pv 1) pe_int (fun _ _ => rfl)) (pa_cons (pv 4) (pa_cons (pv 5) pa_nil))))))
  (pss_cons (ps_set (i := 7) sc_law.nd rfl (Or.inl rfl) (pe_bmK (K := K) rfl PySem.F.plainAttrs_str PySem.F.slot_str_split PySem.F.type_str_split mt_splitN (pe_call (ok__law_head_body T) (hr.mono (by decide)) (by rfl) T.g__law_head_body T.F__law_head_body.kp T.b__law_head_body .nil pass0 (pa_cons (pe_lst pa_nil) (pa_cons (pe_ix (ix_tupK (K := K) rfl) (pv 6) pe_int (fun _ _ => rfl)) (pa_cons (pv 4) (pa_cons (pv 5) pa_nil))))) (pa_cons pe_str pa_nil)))
  (pss_cons (ps_set (i := 8) sc_law.nd rfl (Or.inl rfl) (pe_bmK (K := K) rfl PySem.F.plainAttrs_str PySem.F.slot_str_join PySem.F.type_str_join (mt_joinK (K := K) rfl) pe_str (pa_cons (pe_op op_cat (pe_lst (pa_cons (pe_ix (ix_listK (K := K) rfl) (pv 7) pe_int (fun _ _ => rfl)) (pa_cons (pe_callTy call_strIN (by rfl) T.z_str (by decide +kernel) (pa_cons (pe_ix (ix_tupK (K := K) rfl) (pv 6) pe_int (fun _ _ => rfl)) pa_nil)) pa_nil))) (pe_slice (sl_listK (K := K) rfl) (pv 7) (po_some pe_int) po_none)) pa_nil)))
  (pss_one (ps_if (PW.pt (pw_or (pt_cmpR op_ne (pe_call (ok_head_body T) (hr.mono (by decide)) (by rfl) T.g_head_body T.F_head_body.kp T.b_head_body .nil pass0 (pa_cons (pe_ix (ix_tupK (K := K) rfl) (pv 6) pe_int (fun _ _ => rfl)) (pa_cons (pe_ix (ix_tupK (K := K) rfl) (pv 6) pe_int (fun _ _ => rfl)) (pa_cons (pv 4) (pa_cons (pv 5) pa_nil))))) (pv 8) (nomark _)) (pw_or1 (pt_cmpR op_ne (pe_callB (call_reprD (K := K) rfl hg hr) (by rfl) T.z_repr (by decide +kernel) (pa_cons (pe_call (ok_read_body T) (hr.mono (by decide)) (by rfl) T.g_read_body T.F_read_body.kp T.b_read_body .nil pass0 (pa_cons (pv 8) pa_nil)) pa_nil)) (pe_callB (call_reprD (K := K) rfl hg hr) (by rfl) T.z_repr (by decide +kernel) (pa_cons (pe_tup (pa_cons pe_str (pa_cons (pv 6) pa_nil))) pa_nil)) (nomark _)))))
   (pss_one (ps_ret pe_bl))
   pss_nil))))))
  (pss_cons (ps_for PassesOwn.never rfl (pi_listK (K := K) rfl (pe_lst (pa_cons (pe_tup (pa_cons pe_str (pa_cons (pe_ix (ix_tupK (K := K) rfl) (pv 3) pe_int (fun _ _ => rfl)) (pa_cons (pe_ix (ix_tupK (K := K) rfl) (pv 3) pe_int (fun _ _ => rfl)) (pa_cons (pe_ix (ix_tupK (K := K) rfl) (pv 3) pe_int (fun _ _ => rfl)) (pa_cons (pe_ix (ix_tupK (K := K) rfl) (pv 3) pe_int (fun _ _ => rfl)) pa_nil)))))) (pa_cons (pe_tup (pa_cons pe_str (pa_cons (pe_ix (ix_tupK (K := K) rfl) (pv 3) pe_int (fun _ _ => rfl)) (pa_cons (pe_ix (ix_tupK (K := K) rfl) (pv 3) pe_int (fun _ _ => rfl)) pa_nil)))) pa_nil)))) (pg_name (i := 9) sc_law.nd rfl (Or.inl rfl))
   (pss_one (ps_if (pt_cmpR op_ne (pe_callB (call_reprD (K := K) rfl hg hr) (by rfl) T.z_repr (by decide +kernel) (pa_cons (pe_call (ok_read_body T) (hr.mono (by decide)) (by rfl) T.g_read_body T.F_read_body.kp T.b_read_body .nil pass0 (pa_cons (pe_bmK (K := K) rfl PySem.F.plainAttrs_str PySem.F.slot_str_join PySem.F.type_str_join (mt_joinK (K := K) rfl) pe_str (pa_cons (pe_lc (own := [("_law_part", 11)]) (g := gName 11) (tt := tYes) rfl sc_law.nd (pi_tupK (K := K) rfl (pv 9)) (blkOk_by (own := [("_law_part", 11)]) (N := ["_law_script", "_law_numbers_here", "_law_view_here", "_law_row_here", "_law_moment", "_law_last", "_law_head", "_law_body", "_law_text", "_law_entry", "_law_spoilt", "_law_part", "_law_other"]) (sc := defScope s_law) (by decide +kernel)) (fun _ _ _ _ _ => (pg_name (i := 11) sc_law.nd rfl (Or.inl rfl))) (fun _ _ _ _ _ => pts_nil) (fun _ _ _ _ _ => (pe_callTy call_strV (by rfl) T.z_str (by decide +kernel) (pa_cons (pv 11) pa_nil)))) pa_nil)) pa_nil)) pa_nil)) (pe_callB (call_reprD (K := K) rfl hg hr) (by rfl) T.z_repr (by decide +kernel) (pa_cons (pe_tup (pa_cons pe_str (pa_cons (pv 9) pa_nil))) pa_nil)) (nomark _))
   (pss_one (ps_ret pe_bl))
   pss_nil)))
  (pss_cons (ps_set (i := 7) sc_law.nd rfl (Or.inl rfl) (pe_ix (ix_tupK (K := K) rfl) (pe_tup (pa_cons (pe_call (ok__law_view_body T) (hr.mono (by decide)) (by rfl) T.g__law_view_body T.F__law_view_body.kp T.b__law_view_body .nil pass0 (pa_cons (pv 2) pa_nil)) (pa_cons (pe_call (ok__law_row_body T) (hr.mono (by decide)) (by rfl) T.g__law_row_body T.F__law_row_body.kp T.b__law_row_body .nil pass0 (pa_cons (pv 3) pa_nil)) pa_nil))) (pe_op op_mod (pe_callTy call_intI (by rfl) T.z_int (by decide +kernel) (pa_cons (pe_ix (ix_listK (K := K) rfl) (pv 1) pe_int (fun _ _ => rfl)) pa_nil)) pe_int) (fun _ _ => rfl)))
  (pss_cons (ps_set (i := 10) sc_law.nd rfl (Or.inl rfl) (pe_lst (pa_addT op_addSN (pv 7) (pat_cons (CwR.PET.of (pe_op op_addSN pe_str (pv 7))) (pat_cons (pet_repl1 (pv 7)) (pat_cons (CwR.PET.of (pe_op op_addSN (pv 7) pe_str)) (pat_cons (CwR.PET.of (pe_op op_addSN (pv 7) pe_str)) pat_nil)))))))
  (pss_one (ps_ret (pe_callB (cr_allK (K := K) rfl rfl) (by rfl) T.z_all (by decide +kernel) (pa_cons (pe_lc (own := [("_law_other", 12)]) (g := gName 12) (tt := tYes) rfl sc_law.nd (pi_listK (K := K) rfl (pe_op op_cat (pe_call0 (ok__law_wrong_bodies T) (hr.mono (by decide)) (by rfl) T.g__law_wrong_bodies T.F__law_wrong_bodies.kp T.b__law_wrong_bodies .nil pass0) (pv 10))) (blkOk_by (own := [("_law_other", 12)]) (N := ["_law_script", "_law_numbers_here", "_law_view_here", "_law_row_here", "_law_moment", "_law_last", "_law_head", "_law_body", "_law_text", "_law_entry", "_law_spoilt", "_law_part", "_law_other"]) (sc := defScope s_law) (by decide +kernel)) (fun _ _ _ _ _ => (pg_name (i := 12) sc_law.nd rfl (Or.inl rfl))) (fun _ _ _ _ _ => pts_nil) (fun _ _ _ _ _ => (pe_cmpR op_isNN (pe_call (ok_read_body T) (hr.mono (by decide)) (by rfl) T.g_read_body T.F_read_body.kp T.b_read_body .nil pass0 (pa_cons (pv 12) pa_nil)) pe_non (nomark _)))) pa_nil)))))))))))))), ?_⟩
    try dsimp only [cxOf, Cx.nox]
    walk_at "go"
    refine ⟨l, xs, 60, rfl, hS, hx, by decide, by decide, fun pn H1 ns hpn hE1 hA1 hnl hn9 => ?_⟩
    have hS1 : SqL K H1 pn (ns.map V.int) := .inl (.inl hA1)
    walk_at "go"
    refine ⟨pn, ns, 0, rfl, hS1, hn9, by decide, by omega, fun pv v H2 hE2 hV2 hvg => ?_⟩
    have hS2 := ex_sqL hE2 hS1
    clear hS hE1 hA1 hpn hS1 hE2
    have hlv := vwB_len hvg
    walk_at "go"
    refine ⟨pv, v, rfl, hV2, hvg.ok, fun H3 hE3 => ?_⟩
    walk_at "go"
    refine ⟨pv, v, rfl, hV2.mono hE3, hvg.ok, fun H4 hE4 => ?_⟩
    have hE24 := hE3.trans hE4
    have hV4 := hV2.mono hE24
    have hS4 := ex_sqL hE24 hS2
    clear hE3 hE4 hE24 hV2 hS2
    walk_at "go"
    refine w_ndec (fun h => absurd rfl h) (fun _ => ?_)
    walk_at "go"
    refine ⟨pv, v, rfl, hV4, hvg.ok, fun H5 hE5 => ?_⟩
    walk_at "go"
    refine ⟨vwB v, rfl, by omega, fun hn => (by rw [bd_view hvg] at hn; cases hn), fun b hb p6 H6 hp6 hE6 hB6 => ?_⟩
    have hbv : b = .view v := by rw [bd_view hvg] at hb; cases hb; rfl
    subst hbv
    clear hb
    have hE46 := hE5.trans hE6
    have hV6 := hV4.mono hE46
    have hS6 := ex_sqL hE46 hS4
    clear hE5 hE6 hE46 hV4 hS4 hp6
    walk_at "go"
    obtain ⟨z1, hz1⟩ : ∃ z : Str, (bdD (.view v)).shown = z := ⟨_, rfl⟩
    refine g_reprB hz1 hvg hB6 ?_
    walk_at "go"
    rename_i p7 hp7
    have hE7 := Evl.Ex.new hp7 (o := .tup [V.str "view", V.ref pv])
    refine g_reprB hz1 hvg ⟨pv, .inl (.inl upd_same), hV6.mono hE7⟩ ?_
    have hV7 := hV6.mono hE7
    have hS7 := ex_sqL hE7 hS6
    generalize upd H6 p7 (.tup [V.str "view", V.ref pv]) = H7 at *
    clear hE7 hV6 hS6 hp7 hB6
    walk_at "go"
    refine w_ndec (fun h => absurd rfl h) (fun _ => ?_)
    walk_at "go"
    refine ⟨pn, ns, 12, rfl, hS7, hn9, by decide, by omega, fun pr r H8 hE8 hK8 hrg => ?_⟩
    have hV8 := hV7.mono hE8
    have hS8 := ex_sqL hE8 hS7
    clear hV7 hS7 hE8
    have hlr := krB_len hrg
    walk_at "go"
    refine ⟨pr, r, rfl, hK8, hrg.ok, fun H9 hE9 => ?_⟩
    walk_at "go"
    refine ⟨pr, r, rfl, hK8.mono hE9, hrg.ok, fun H10 hE10 => ?_⟩
    have hE24 := hE9.trans hE10
    have hV10 := hV8.mono hE24
    have hS10 := ex_sqL hE24 hS8
    have hK10 := hK8.mono hE24
    clear hE9 hE10 hE24 hV8 hS8 hK8
    walk_at "go"
    refine w_ndec (fun h => absurd rfl h) (fun _ => ?_)
    walk_at "go"
    refine ⟨pr, r, rfl, hK10, hrg.ok, fun H11 hE11 => ?_⟩
    walk_at "go"
    refine ⟨krB r, rfl, by omega, fun hn => (by rw [bd_key hrg] at hn; cases hn), fun b hb p6 H12 hp6 hE12 hB12 => ?_⟩
    have hbv : b = .key r := by rw [bd_key hrg] at hb; cases hb; rfl
    subst hbv
    clear hb
    have hE46 := hE11.trans hE12
    have hV12 := hV10.mono hE46
    have hS12 := ex_sqL hE46 hS10
    have hK12 := hK10.mono hE46
    clear hE11 hE12 hE46 hV10 hS10 hK10 hp6
    walk_at "go"
    obtain ⟨z2, hz2⟩ : ∃ z : Str, (bdD (.key r)).shown = z := ⟨_, rfl⟩
    refine g_reprB hz2 hrg hB12 ?_
    walk_at "go"
    rename_i p13 hp13
    have hE13 := Evl.Ex.new hp13 (o := .tup [V.str "key", V.ref pr])
    refine g_reprB hz2 hrg ⟨pr, .inl (.inl upd_same), hK12.mono hE13⟩ ?_
    have hV13 := hV12.mono hE13
    have hS13 := ex_sqL hE13 hS12
    have hK13 := hK12.mono hE13
    generalize upd H12 p13 (.tup [V.str "key", V.ref pr]) = H13 at *
    clear hE13 hV12 hS12 hK12 hp13 hB12
    walk_at "go"
    refine w_ndec (fun h => absurd rfl h) (fun _ => ?_)
    have n30 := hn9.at (Int.toNat 30) (show 30 < ns.length by omega)
    have n31 := hn9.at (Int.toNat 31) (show 31 < ns.length by omega)
    have n32 := hn9.at (Int.toNat 32) (show 32 < ns.length by omega)
    have n33 := hn9.at (Int.toNat 33) (show 33 < ns.length by omega)
    walk_at "go"
    obtain ⟨mo, hmo, hmb⟩ : ∃ mo : Option Int, atI [V.non, V.int 0, V.int (ns.getD (Int.toNat 30) 0 * 991)] (ns.getD (Int.toNat 30) 0 % 3) = some (oN mo) ∧ ∀ i, mo = some i → 0 ≤ i ∧ i ≤ 1000000000 := by
      have h0 : 0 ≤ ns.getD (Int.toNat 30) 0 % 3 := by omega
      have h4 : ns.getD (Int.toNat 30) 0 % 3 < 3 := by omega
      have h5 : ns.getD (Int.toNat 30) 0 * 991 ≤ 1000000000 := by omega
      have h6 : 0 ≤ ns.getD (Int.toNat 30) 0 * 991 := by omega
      generalize ns.getD (Int.toNat 30) 0 * 991 = u at *
      generalize ns.getD (Int.toNat 30) 0 % 3 = m at *
      have c4 : m = 0 ∨ m = 1 ∨ m = 2 := by omega
      rcases c4 with rfl | rfl | rfl
      · exact ⟨none, rfl, fun i hi => nomatch hi⟩
      · exact ⟨some 0, rfl, fun i hi => by cases hi; decide⟩
      · exact ⟨some u, rfl, fun i hi => by cases hi; exact ⟨h6, h5⟩⟩
    refine g_ixT (.inl (.inl upd_same)) hmo ?_
    walk_at "go"
    rename_i p14 hp14 pL hpL
    have hEl : Ex H13 (upd (upd H13 p14 (.tup [V.non, V.int 0, V.int (ns.getD (Int.toNat 30) 0 * 991)])) pL (.lst [V.non, V.ref pv])) := by walk_at "ex"
    have hLl : SqL K (upd (upd H13 p14 (.tup [V.non, V.int 0, V.int (ns.getD (Int.toNat 30) 0 * 991)])) pL (.lst [V.non, V.ref pv])) pL [V.non, V.ref pv] := .inl (.inl upd_same)
    have hV14 := hV13.mono hEl
    have hS14 := ex_sqL hEl hS13
    have hK14 := hK13.mono hEl
    generalize upd (upd H13 p14 (.tup [V.non, V.int 0, V.int (ns.getD (Int.toNat 30) 0 * 991)])) pL (.lst [V.non, V.ref pv]) = Hl at *
    clear hEl hV13 hS13 hK13 hp14 hpL hmo
    refine l_it (walk_list (xs := [V.non, V.ref pv])) (fun i σ' H' => ∃ (v5 v6 v7 v8 : Option V), σ' = [some (.ref l), some (.ref pn), some (.ref pv), some (.ref pr), some (oN mo), v5, v6, v7, v8, none, none, none, none] ∧ Ex Hl H') ⟨none, none, none, none, rfl, Evl.Ex.refl _⟩ (fun i σ' H' hi hP => ?_) (fun i x σ' H2b H2 hi hP hY => ?_) (fun σ' H2 hP => ?_)
    · obtain ⟨_, _, _, _, _, e⟩ := hP
      exact ex_sqL e hLl
    · obtain ⟨v5, v6, v7, v8, rfl, hE⟩ := hP
      obtain ⟨rfl, hxi⟩ := hY
      obtain ⟨vo, hvo, hvg2⟩ : ∃ vo : Option Vw, OVw K H2 x vo ∧ ∀ u, vo = some u → u.Good := by
        match i, hxi with
        | 0, h => exact ⟨none, (Option.some.inj h).symm, fun u hu => nomatch hu⟩
        | 1, h => exact ⟨some v, ⟨pv, (Option.some.inj h).symm, hV14.mono hE⟩, fun u hu => by cases hu; exact hvg⟩
      have hS2 := ex_sqL hE hS14
      obtain ⟨m, hm⟩ : ∃ m, m = ns.getD (Int.toNat 31) 0 * 997 % 1000000 := ⟨_, rfl⟩
      obtain ⟨e, he⟩ : ∃ e, e = ns.getD (Int.toNat 32) 0 := ⟨_, rfl⟩
      have hm0 : 0 ≤ m := by omega
      have hm1 : m < 1000000 := by omega
      have he0 : 0 ≤ e := by omega
      have he1 : e < 1000000 := by omega
      have hG : GoodB (.keep m e mo vo) := ⟨hm0, hm1, he0, he1, hmb, hvg2⟩
      have hG0 : GoodB (.keep 0 e mo vo) := ⟨by decide, by decide, he0, he1, hmb, hvg2⟩
      have hl0 := hdB_len hG0
      have hl1 := hdB_len hG
      walk_at "go"
      rename_i pH hpH pE hpE
      rw [← hm, ← he] at hpE ⊢
      have hEe : Ex H2 (upd (upd H2 pH (.tup [V.int m, V.int e, oN mo, x])) pE (.lst [])) := (Evl.Ex.new hpH).trans (Evl.Ex.new hpE)
      have hHe : SqT K (upd (upd H2 pH (.tup [V.int m, V.int e, oN mo, x])) pE (.lst [])) pH [V.int m, V.int e, oN mo, x] := ex_sqT (Evl.Ex.new hpE) (.inl (.inl upd_same))
      have hLe : SqL K (upd (upd H2 pH (.tup [V.int m, V.int e, oN mo, x])) pE (.lst [])) pE [] := .inl (.inl upd_same)
      generalize upd (upd H2 pH (.tup [V.int m, V.int e, oN mo, x])) pE (.lst []) = He at *
      refine ⟨pE, e, mo, x, vo, [], rfl, hLe, Nat.zero_le _, hvo.mono hEe, ⟨he0, by omega⟩, fun i hi => ⟨(hmb i hi).1, by have := (hmb i hi).2; omega⟩, fun u hu => (hvg2 u hu).ok, fun H4 hE4 => ?_⟩
      rw [show (((([] : List V).length : Nat) : Int)) = 0 from rfl]
      have hsp := split_hd hG0
      generalize hdB 0 e mo vo = zt at *
      have hH4 := ex_sqT hE4 hHe
      have hE24 : Ex H2 H4 := hEe.trans hE4
      have hvo4 := hvo.mono hE24
      have hE04 := hE.trans hE24
      clear hEe hHe hLe
      clear hE4 hpE hpH hE24 hvo hE
      walk_at "go"
      rename_i pW hpW
      rw [hsp]
      have hW5 : SqL K (upd H4 pW (.lst ((("keep" : Str) :: (toString (0 : Int) : Str) :: (toString e : Str) :: numW mo :: wordsO vo).map V.str))) pW (.str "keep" :: .str (toString (0 : Int) : Str) :: (((toString e : Str) :: numW mo :: wordsO vo).map V.str)) := .inl (.inl upd_same)
      have hEw := Evl.Ex.new hpW (o := .lst ((("keep" : Str) :: (toString (0 : Int) : Str) :: (toString e : Str) :: numW mo :: wordsO vo).map V.str))
      have hH5 := ex_sqT hEw hH4
      have hvo5 := hvo4.mono hEw
      have hE05 := hE04.trans hEw
      generalize upd H4 pW (.lst ((("keep" : Str) :: (toString (0 : Int) : Str) :: (toString e : Str) :: numW mo :: wordsO vo).map V.str)) = H5 at *
      clear hEw hpW hH4 hvo4 hE04
      have hcut : cutV (.str "keep" :: .str (toString (0 : Int) : Str) :: (((toString e : Str) :: numW mo :: wordsO vo).map V.str)) (some 2) none = ((toString e : Str) :: numW mo :: wordsO vo).map V.str := by
        rw [cutV_from _ (by decide)]
        rfl
      have hwl : (((toString e : Str) :: numW mo :: wordsO vo).map V.str).length ≤ 20 := by
        rw [List.length_map]
        cases vo with
        | none => show 2 ≤ 20; omega
        | some u =>
          have := (vwW_len2 (hvg2 u rfl)).1
          show (vwW u).length + 2 ≤ 20
          omega
      walk_at "go"
      rename_i p16 hp16 p17 hp17
      rw [hcut]
      refine g_cat (by walk_at "at") upd_same (fits_of (by simp only [List.length_cons, List.length_nil]; omega)) (fun p18 hp18 => ?_)
      walk_at "go"
      have e4 : [V.str "keep", V.str (toString m)] ++ ((toString e : Str) :: numW mo :: wordsO vo).map V.str = (hdW m e mo vo).map V.str := by rw [hdW_eq]; rfl
      rw [e4]
      refine g_join (.inl (.inl upd_same)) (hdW_fits hG) ?_
      have hrb := bd_keep hm0 hm1 he0 he1 hmb hvg2
      obtain ⟨zt2, hzt2⟩ : ∃ z, hdB m e mo vo = z := ⟨_, rfl⟩
      rw [show Txt.join " " (hdW m e mo vo) = hdB m e mo vo from rfl, hzt2]
      rw [hzt2] at hl1 hrb
      have hEj : Ex H5 (upd (upd (upd H5 p16 (.lst [V.str "keep", V.str (toString m)])) p17 (.lst (((toString e : Str) :: numW mo :: wordsO vo).map V.str))) p18 (.lst ((hdW m e mo vo).map V.str))) := by
        exact ((Evl.Ex.new hp16).trans (Evl.Ex.new hp17)).trans (Evl.Ex.new hp18)
      have hH6 := ex_sqT hEj hH5
      have hvo6 := hvo5.mono hEj
      have hE06 := hE05.trans hEj
      generalize upd (upd (upd H5 p16 (.lst [V.str "keep", V.str (toString m)])) p17 (.lst (((toString e : Str) :: numW mo :: wordsO vo).map V.str))) p18 (.lst ((hdW m e mo vo).map V.str)) = H6 at *
      clear hEj hp16 hp17 hp18 hcut hwl hW5 hH5 hvo5 hE05 e4 hsp hS2 hl0 hG0
      walk_at "go"
      refine ⟨m, e, mo, x, vo, rfl, hvo6, ⟨hm0, by omega⟩, ⟨he0, by omega⟩, fun i hi => ⟨(hmb i hi).1, by have := (hmb i hi).2; omega⟩, fun u hu => (hvg2 u hu).ok, fun H7 hE7 => ?_⟩
      rw [hzt2]
      walk_at "go"
      refine w_ndec (fun h => absurd rfl h) (fun _ => ?_)
      walk_at "go"
      refine ⟨zt2, rfl, by omega, fun hn => (by rw [hrb] at hn; cases hn), fun b hb p8 H8 hp8 hE8 hB8 => ?_⟩
      have hbv : b = .keep m e mo vo := by rw [hrb] at hb; cases hb; rfl
      subst hbv
      have hE68 := hE7.trans hE8
      have hH8 := ex_sqT hE68 hH6
      have hvo8 := hvo6.mono hE68
      have hE08 := hE06.trans hE68
      clear hb hE7 hE8 hE68 hH6 hvo6 hE06 hp8
      walk_at "go"
      obtain ⟨z3, hz3⟩ : ∃ z : Str, (bdD (.keep m e mo vo)).shown = z := ⟨_, rfl⟩
      refine g_reprB hz3 hG hB8 ?_
      walk_at "go"
      rename_i p19 hp19
      have hE9 := Evl.Ex.new hp19 (o := .tup [V.str "keep", V.ref pH])
      refine g_reprB hz3 hG ⟨pH, .inl (.inl upd_same), x, ex_sqT hE9 hH8, hvo8.mono hE9⟩ ?_
      walk_at "go"
      refine w_ndec (fun h => absurd rfl h) (fun _ => ?_)
      exact ⟨_, _, _, _, rfl, hE08.trans hE9⟩
    obtain ⟨v5, v6, v7, v8, rfl, hE⟩ := hP
    obtain ⟨pl, hKa, hKb⟩ := id (hK14.mono hE)
    have hV2 := hV14.mono hE
    have hS2 := ex_sqL hE hS14
    have hK2 := hK14.mono hE
    clear hLl hV14 hS14 hK14 hE
    walk_at "go"
    rename_i pA hpA pB hpB pL2 hpL2
    have hEl2 : Ex H2 (upd (upd (upd H2 pA (.tup [V.str "ask", V.str r.k, V.str r.g, V.int r.c, V.int r.m])) pB (.tup [V.str "release", V.str r.k, V.int r.m])) pL2 (.lst [V.ref pA, V.ref pB])) := by walk_at "ex"
    have hL2 : SqL K (upd (upd (upd H2 pA (.tup [V.str "ask", V.str r.k, V.str r.g, V.int r.c, V.int r.m])) pB (.tup [V.str "release", V.str r.k, V.int r.m])) pL2 (.lst [V.ref pA, V.ref pB])) pL2 [V.ref pA, V.ref pB] := .inl (.inl upd_same)
    have hA2 : SqT K (upd (upd (upd H2 pA (.tup [V.str "ask", V.str r.k, V.str r.g, V.int r.c, V.int r.m])) pB (.tup [V.str "release", V.str r.k, V.int r.m])) pL2 (.lst [V.ref pA, V.ref pB])) pA (Ent.ask r.k r.g r.c r.m).vs := ex_sqT (Evl.Ex.new hpL2) (ex_sqT (Evl.Ex.new hpB) (.inl (.inl upd_same)))
    have hB2 : SqT K (upd (upd (upd H2 pA (.tup [V.str "ask", V.str r.k, V.str r.g, V.int r.c, V.int r.m])) pB (.tup [V.str "release", V.str r.k, V.int r.m])) pL2 (.lst [V.ref pA, V.ref pB])) pB (Ent.rel r.k r.m).vs := ex_sqT (Evl.Ex.new hpL2) (.inl (.inl upd_same))
    have hV3 := hV2.mono hEl2
    have hS3 := ex_sqL hEl2 hS2
    have hK3 := hK2.mono hEl2
    generalize upd (upd (upd H2 pA (.tup [V.str "ask", V.str r.k, V.str r.g, V.int r.c, V.int r.m])) pB (.tup [V.str "release", V.str r.k, V.int r.m])) pL2 (.lst [V.ref pA, V.ref pB]) = Hm at *
    clear hEl2 hpA hpB hpL2 hV2 hS2 hK2 hKa hKb
    have ok1 : (Ent.ask r.k r.g r.c r.m).ok = true := by
      have h1 := hrg.k
      have h2 := hrg.g
      have h3 := hrg.c0
      have h4 := hrg.c1
      have h5 := hrg.m0
      have h6 := hrg.m1
      simp only [Ent.ok, h1, h2, decide_eq_true h3, decide_eq_true h4, decide_eq_true h5, decide_eq_true h6, Bool.and_self]
    have ok2 : (Ent.rel r.k r.m).ok = true := by
      have h1 := hrg.k
      have h5 := hrg.m0
      have h6 := hrg.m1
      simp only [Ent.ok, h1, decide_eq_true h5, decide_eq_true h6, Bool.and_self]
    refine l_it (walk_list (xs := [V.ref pA, V.ref pB])) (fun i σ' H' => ∃ (v9 v11 : Option V), σ' = [some (.ref l), some (.ref pn), some (.ref pv), some (.ref pr), some (oN mo), v5, v6, v7, v8, v9, none, v11, none] ∧ Ex Hm H') ⟨none, none, rfl, Evl.Ex.refl _⟩ (fun i σ' H' hi hP => ?_) (fun i x σ' H2b H2 hi hP hY => ?_) (fun σ' H2 hP => ?_)
    · obtain ⟨_, _, _, e⟩ := hP
      exact ex_sqL e hL2
    · obtain ⟨v9, v11, rfl, hE⟩ := hP
      obtain ⟨rfl, hxi⟩ := hY
      obtain ⟨pe, e, rfl, hT, hok⟩ : ∃ (pe : Addr) (e : Ent), x = .ref pe ∧ SqT K H2 pe e.vs ∧ e.ok = true := by
        match i, hxi with
        | 0, h => exact ⟨pA, _, (Option.some.inj h).symm, ex_sqT hE hA2, ok1⟩
        | 1, h => exact ⟨pB, _, (Option.some.inj h).symm, ex_sqT hE hB2, ok2⟩
      have hel := Ent.line_len hok
      have hrb := bd_ent hok
      walk_at "go"
      refine lc_tup (fun v => .str (partS v)) hT (Nat.le_trans (Ent.vs_len _) (by decide)) (fun v hv H1 e1 R hR => ?_) (fun p1 H1 hp1 hE1 hL1 => ?_)
      · walk_at "go"
        refine g_strP (Ent.ok_parts hok v hv) ?_
        exact hR _ (Evl.Ex.refl _)
      have e1 : (e.vs.map fun v => V.str (partS v)) = (e.vs.map partS).map V.str := by rw [List.map_map]; rfl
      rw [e1] at hL1
      have hT1 := ex_sqT hE1 hT
      have hE01 := hE.trans hE1
      walk_at "go"
      refine g_join (.inl (.inl hL1)) ?_ ?_
      · have h1 := sum_le (b := 20) (ys := e.vs.map partS) fun y hy => by
          obtain ⟨v, hv, rfl⟩ := List.mem_map.mp hy
          exact (Ent.ok_parts hok v hv).len
        have h2 := Ent.vs_len e
        rw [List.length_map] at h1 ⊢
        rw [show (" " : Str).length = 1 from rfl]
        omega
      rw [show Txt.join " " (e.vs.map partS) = e.line from rfl]
      walk_at "go"
      refine ⟨e.line, rfl, by omega, fun hn => (by rw [hrb] at hn; cases hn), fun b hb p8 H8 hp8 hE8 hB8 => ?_⟩
      have hbv : b = .ent e := by rw [hrb] at hb; cases hb; rfl
      subst hbv
      have hT8 := ex_sqT hE8 hT1
      have hE08 := hE01.trans hE8
      clear hb hE8 hE01 hT1 hp8 hL1 hp1 hE1 hE
      walk_at "go"
      obtain ⟨z3, hz3⟩ : ∃ z : Str, (bdD (.ent e)).shown = z := ⟨_, rfl⟩
      refine g_reprB hz3 hok hB8 ?_
      walk_at "go"
      rename_i p19 hp19
      have hE9 := Evl.Ex.new hp19 (o := .tup [V.str "entry", V.ref pe])
      refine g_reprB hz3 hok ⟨pe, .inl (.inl upd_same), ex_sqT hE9 hT8⟩ ?_
      walk_at "go"
      refine w_ndec (fun h => absurd rfl h) (fun _ => ?_)
      exact ⟨_, _, rfl, hE08.trans hE9⟩
    obtain ⟨v9, v11, rfl, hE⟩ := hP
    have hV4 := hV3.mono hE
    have hS4 := ex_sqL hE hS3
    have hK4 := hK3.mono hE
    clear hV3 hS3 hK3 hL2 hA2 hB2 hE
    walk_at "go"
    refine ⟨pv, v, rfl, hV4, hvg.ok, fun H5 hE5 => ?_⟩
    walk_at "go"
    refine ⟨pr, r, rfl, hK4.mono hE5, hrg.ok, fun H6 hE6 => ?_⟩
    have hS6 := ex_sqL (hE5.trans hE6) hS4
    clear hV4 hK4 hS4 hE5 hE6
    obtain ⟨B, hB, hN, hBl⟩ : ∃ B : Str, atI [V.str (vwB v), V.str (krB r)] (ns.getD (Int.toNat 33) 0 % 2) = some (.str B) ∧ NearBad B ∧ B.length ≤ 2000 := by
      have h0 : 0 ≤ ns.getD (Int.toNat 33) 0 % 2 := by omega
      have h4 : ns.getD (Int.toNat 33) 0 % 2 < 2 := by omega
      generalize ns.getD (Int.toNat 33) 0 % 2 = m at *
      have c4 : m = 0 ∨ m = 1 := by omega
      rcases c4 with rfl | rfl
      · exact ⟨vwB v, rfl, near_view hvg, by omega⟩
      · exact ⟨krB r, rfl, near_key hrg, hlr⟩
    obtain ⟨la, lb, hla, hlab, hlc, hlcl⟩ := near_len hN hBl
    have es1 : (" " : Str).length = 1 := by decide +kernel
    have es2 : (" x-" : Str).length = 3 := by decide +kernel
    have es3 : ("\n" : Str).length = 1 := by decide +kernel
    walk_at "go"
    refine g_ixT (.inl (.inl upd_same)) hB ?_
    walk_at "go"
    refine g_repl1S hla hlab (by omega) ?_
    walk_at "go"
    rename_i p30 hp30 pS hpS
    obtain ⟨sp, hsp⟩ : ∃ sp : List Str, sp = [B ++ " ", " " ++ B, stxt (la ++ 32 :: 32 :: lb), B ++ " x-", B ++ "\n"] := ⟨_, rfl⟩
    have hspL : [V.str (B ++ " "), V.str (" " ++ B), V.str (stxt (la ++ 32 :: 32 :: lb)), V.str (B ++ " x-"), V.str (B ++ "\n")] = sp.map V.str := by rw [hsp]; rfl
    have hsp5 : sp.length = 5 := by rw [hsp]; rfl
    have hspn : ∀ z ∈ sp, readBd z = none ∧ z.length ≤ 3000 := fun z hz => by
      rw [hsp] at hz
      simp only [List.mem_cons, List.not_mem_nil, or_false] at hz
      rcases hz with rfl | rfl | rfl | rfl | rfl
      · exact ⟨hN.a, by rw [len_tl, tl_app, List.length_append, ← len_tl, ← len_tl]; omega⟩
      · exact ⟨hN.b, by rw [len_tl, tl_app, List.length_append, ← len_tl, ← len_tl]; omega⟩
      · exact ⟨hlc, hlcl⟩
      · exact ⟨hN.d, by rw [len_tl, tl_app, List.length_append, ← len_tl, ← len_tl]; omega⟩
      · exact ⟨hN.e, by rw [len_tl, tl_app, List.length_append, ← len_tl, ← len_tl]; omega⟩
    rw [hspL]
    have hA7 : (upd (upd H6 p30 (.tup [V.str (vwB v), V.str (krB r)])) pS (.lst (sp.map V.str))) pS = some (.lst (sp.map V.str)) := upd_same
    generalize upd (upd H6 p30 (.tup [V.str (vwB v), V.str (krB r)])) pS (.lst (sp.map V.str)) = H7 at *
    clear hp30 hpS hspL hsp hS6 hN hlc hlcl hla hlab hB
    refine ⟨rfl, fun pw H8 hpw hE8 hA8 => ?_⟩
    have hS8 := hE8 _ _ hA7
    clear hE8 hA7 hpw
    walk_at "go"
    have hw64 : wrongL.length = 64 := by decide +kernel
    refine g_cat hA8 hS8 (fits_of (by rw [List.length_map, List.length_map, hw64, hsp5]; omega)) (fun p9 hp9 => ?_)
    walk_at "go"
    have hall : ∀ z ∈ wrongL ++ sp, readBd z = none ∧ z.length ≤ 3000 := fun z hz => by
      rcases List.mem_append.mp hz with hz | hz
      · exact ⟨wrong_mem hz, Nat.le_trans (wrong_len z hz) (by decide)⟩
      · exact hspn z hz
    have hL9 : SqL K (upd H8 p9 (.lst (wrongL.map V.str ++ sp.map V.str))) p9 ((wrongL ++ sp).map V.str) := .inl (.inl (by rw [upd_same, List.map_append]))
    generalize upd H8 p9 (.lst (wrongL.map V.str ++ sp.map V.str)) = H9 at *
    have hlt : (wrongL ++ sp).length = 69 := by rw [List.length_append, hw64, hsp5]
    generalize wrongL ++ sp = zs at *
    refine lc_lst V.str (fun _ => V.bl true) ("" : Str) hL9 (by omega) (fun z hz H10 e10 R hR => ?_) (fun p11 H11 hp11 hE11 hA11 => ?_)
    · obtain ⟨hzn, hzl⟩ := hall z hz
      walk_at "go"
      refine ⟨z, rfl, by omega, fun _ H12 hE12 => ?_, fun b hb => (by rw [hzn] at hb; cases hb)⟩
      walk_at "go"
      exact hR _ hE12
    · have hL11 : SqL K H11 p11 ((zs.map fun _ => true).map V.bl) := .inl (.inl (by rw [hA11, List.map_map]; rfl))
      clear hA11
      walk_at "go"
      have ht : ((zs.map fun _ => true).all fun c => c) = true := by
        rw [List.all_map]
        exact List.all_eq_true.mpr fun _ _ => rfl
      rw [ht]
      exact q _
end
theorem all_mk {l : PySem.W.OpenLaw} {w : World} {K : PySem.W.Frag} {h : Heap} {mg : Str → Option Value} {fa f0 f1 f2 f3 f4 f5 f6 f7 f8 f9 f10 f11 f12 f13 f14 f15 f16 f17 f18 f19 f20 f21 f22 f23 f24 f25 f26 f27 f28 f29 : Addr} (X : K.In h) (G : h.Ns mainGlobals mg) (hfa : mg "law" = some (.ref fa))
    {od0 an0 od1 an1 od2 an2 od3 an3 od4 an4 od5 an5 od6 an6 od7 an7 od8 an8 od9 an9 od10 an10 od11 an11 od12 an12 od13 an13 od14 an14 od15 an15 od16 an16 od17 an17 od18 an18 od19 an19 od20 an20 od21 an21 od22 an22 od23 an23 od24 an24 od25 an25 od26 an26 od27 an27 od28 an28 od29 an29 : Option Addr} {sl0 sl1 sl2 sl3 sl4 sl5 sl6 sl7 sl8 sl9 sl10 sl11 sl12 sl13 sl14 sl15 sl16 sl17 sl18 sl19 sl20 sl21 sl22 sl23 sl24 sl25 sl26 sl27 sl28 sl29 : Array (Option Value)} {oc0 kV0 dc0 pm0 cd0 ct0 oc1 kV1 dc1 pm1 cd1 ct1 oc2 kV2 dc2 pm2 cd2 ct2 oc3 kV3 dc3 pm3 cd3 ct3 oc4 kV4 dc4 pm4 cd4 ct4 oc5 kV5 dc5 pm5 cd5 ct5 oc6 kV6 dc6 pm6 cd6 ct6 oc7 kV7 dc7 pm7 cd7 ct7 oc8 kV8 dc8 pm8 cd8 ct8 oc9 kV9 dc9 pm9 cd9 ct9 oc10 kV10 dc10 pm10 cd10 ct10 oc11 kV11 dc11 pm11 cd11 ct11 oc12 kV12 dc12 pm12 cd12 ct12 oc13 kV13 dc13 pm13 cd13 ct13 oc14 kV14 dc14 pm14 cd14 ct14 oc15 kV15 dc15 pm15 cd15 ct15 oc16 kV16 dc16 pm16 cd16 ct16 oc17 kV17 dc17 pm17 cd17 ct17 oc18 kV18 dc18 pm18 cd18 ct18 oc19 kV19 dc19 pm19 cd19 ct19 oc20 kV20 dc20 pm20 cd20 ct20 oc21 kV21 dc21 pm21 cd21 ct21 oc22 kV22 dc22 pm22 cd22 ct22 oc23 kV23 dc23 pm23 cd23 ct23 oc24 kV24 dc24 pm24 cd24 ct24 oc25 kV25 dc25 pm25 cd25 ct25 oc26 kV26 dc26 pm26 cd26 ct26 oc27 kV27 dc27 pm27 cd27 ct27 oc28 kV28 dc28 pm28 cd28 ct28 oc29 kV29 dc29 pm29 cd29 ct29 : Value}
    (a0 : PySem.W.nsIn K mainGlobals "is_name" = some (some (.ref f0))) (l0 : K.lookup f0 = some ⟨oc0, od0, .func (PySem.W.fnOf "is_name" "is_name" (defArgs s_is_name) (defBody s_is_name) (defScope s_is_name) .none kV0 dc0 pm0 an0 cd0 ct0), sl0⟩) (c0 : PySem.W.codeIn K cd0 "is_name" = true) (k0 : PySem.W.keepIn K (.ref f0) = true)
    (a1 : PySem.W.nsIn K mainGlobals "is_key" = some (some (.ref f1))) (l1 : K.lookup f1 = some ⟨oc1, od1, .func (PySem.W.fnOf "is_key" "is_key" (defArgs s_is_key) (defBody s_is_key) (defScope s_is_key) .none kV1 dc1 pm1 an1 cd1 ct1), sl1⟩) (c1 : PySem.W.codeIn K cd1 "is_key" = true) (k1 : PySem.W.keepIn K (.ref f1) = true)
    (a2 : PySem.W.nsIn K mainGlobals "ascends" = some (some (.ref f2))) (l2 : K.lookup f2 = some ⟨oc2, od2, .func (PySem.W.fnOf "ascends" "ascends" (defArgs s_ascends) (defBody s_ascends) (defScope s_ascends) .none kV2 dc2 pm2 an2 cd2 ct2), sl2⟩) (c2 : PySem.W.codeIn K cd2 "ascends" = true) (k2 : PySem.W.keepIn K (.ref f2) = true)
    (a3 : PySem.W.nsIn K mainGlobals "is_entry" = some (some (.ref f3))) (l3 : K.lookup f3 = some ⟨oc3, od3, .func (PySem.W.fnOf "is_entry" "is_entry" (defArgs s_is_entry) (defBody s_is_entry) (defScope s_is_entry) .none kV3 dc3 pm3 an3 cd3 ct3), sl3⟩) (c3 : PySem.W.codeIn K cd3 "is_entry" = true) (k3 : PySem.W.keepIn K (.ref f3) = true)
    (a4 : PySem.W.nsIn K mainGlobals "read_number" = some (some (.ref f4))) (l4 : K.lookup f4 = some ⟨oc4, od4, .func (PySem.W.fnOf "read_number" "read_number" (defArgs s_read_number) (defBody s_read_number) (defScope s_read_number) .none kV4 dc4 pm4 an4 cd4 ct4), sl4⟩) (c4 : PySem.W.codeIn K cd4 "read_number" = true) (k4 : PySem.W.keepIn K (.ref f4) = true)
    (a5 : PySem.W.nsIn K mainGlobals "read_entry" = some (some (.ref f5))) (l5 : K.lookup f5 = some ⟨oc5, od5, .func (PySem.W.fnOf "read_entry" "read_entry" (defArgs s_read_entry) (defBody s_read_entry) (defScope s_read_entry) .none kV5 dc5 pm5 an5 cd5 ct5), sl5⟩) (c5 : PySem.W.codeIn K cd5 "read_entry" = true) (k5 : PySem.W.keepIn K (.ref f5) = true)
    (a6 : PySem.W.nsIn K mainGlobals "number_or_none" = some (some (.ref f6))) (l6 : K.lookup f6 = some ⟨oc6, od6, .func (PySem.W.fnOf "number_or_none" "number_or_none" (defArgs s_number_or_none) (defBody s_number_or_none) (defScope s_number_or_none) .none kV6 dc6 pm6 an6 cd6 ct6), sl6⟩) (c6 : PySem.W.codeIn K cd6 "number_or_none" = true) (k6 : PySem.W.keepIn K (.ref f6) = true)
    (a7 : PySem.W.nsIn K mainGlobals "view_words" = some (some (.ref f7))) (l7 : K.lookup f7 = some ⟨oc7, od7, .func (PySem.W.fnOf "view_words" "view_words" (defArgs s_view_words) (defBody s_view_words) (defScope s_view_words) .none kV7 dc7 pm7 an7 cd7 ct7), sl7⟩) (c7 : PySem.W.codeIn K cd7 "view_words" = true) (k7 : PySem.W.keepIn K (.ref f7) = true)
    (a8 : PySem.W.nsIn K mainGlobals "view_body" = some (some (.ref f8))) (l8 : K.lookup f8 = some ⟨oc8, od8, .func (PySem.W.fnOf "view_body" "view_body" (defArgs s_view_body) (defBody s_view_body) (defScope s_view_body) .none kV8 dc8 pm8 an8 cd8 ct8), sl8⟩) (c8 : PySem.W.codeIn K cd8 "view_body" = true) (k8 : PySem.W.keepIn K (.ref f8) = true)
    (a9 : PySem.W.nsIn K mainGlobals "head_body" = some (some (.ref f9))) (l9 : K.lookup f9 = some ⟨oc9, od9, .func (PySem.W.fnOf "head_body" "head_body" (defArgs s_head_body) (defBody s_head_body) (defScope s_head_body) .none kV9 dc9 pm9 an9 cd9 ct9), sl9⟩) (c9 : PySem.W.codeIn K cd9 "head_body" = true) (k9 : PySem.W.keepIn K (.ref f9) = true)
    (a10 : PySem.W.nsIn K mainGlobals "word_of" = some (some (.ref f10))) (l10 : K.lookup f10 = some ⟨oc10, od10, .func (PySem.W.fnOf "word_of" "word_of" (defArgs s_word_of) (defBody s_word_of) (defScope s_word_of) .none kV10 dc10 pm10 an10 cd10 ct10), sl10⟩) (c10 : PySem.W.codeIn K cd10 "word_of" = true) (k10 : PySem.W.keepIn K (.ref f10) = true)
    (a11 : PySem.W.nsIn K mainGlobals "row_body" = some (some (.ref f11))) (l11 : K.lookup f11 = some ⟨oc11, od11, .func (PySem.W.fnOf "row_body" "row_body" (defArgs s_row_body) (defBody s_row_body) (defScope s_row_body) .none kV11 dc11 pm11 an11 cd11 ct11), sl11⟩) (c11 : PySem.W.codeIn K cd11 "row_body" = true) (k11 : PySem.W.keepIn K (.ref f11) = true)
    (a12 : PySem.W.nsIn K mainGlobals "read_moment" = some (some (.ref f12))) (l12 : K.lookup f12 = some ⟨oc12, od12, .func (PySem.W.fnOf "read_moment" "read_moment" (defArgs s_read_moment) (defBody s_read_moment) (defScope s_read_moment) .none kV12 dc12 pm12 an12 cd12 ct12), sl12⟩) (c12 : PySem.W.codeIn K cd12 "read_moment" = true) (k12 : PySem.W.keepIn K (.ref f12) = true)
    (a13 : PySem.W.nsIn K mainGlobals "read_view" = some (some (.ref f13))) (l13 : K.lookup f13 = some ⟨oc13, od13, .func (PySem.W.fnOf "read_view" "read_view" (defArgs s_read_view) (defBody s_read_view) (defScope s_read_view) .none kV13 dc13 pm13 an13 cd13 ct13), sl13⟩) (c13 : PySem.W.codeIn K cd13 "read_view" = true) (k13 : PySem.W.keepIn K (.ref f13) = true)
    (a14 : PySem.W.nsIn K mainGlobals "read_head" = some (some (.ref f14))) (l14 : K.lookup f14 = some ⟨oc14, od14, .func (PySem.W.fnOf "read_head" "read_head" (defArgs s_read_head) (defBody s_read_head) (defScope s_read_head) .none kV14 dc14 pm14 an14 cd14 ct14), sl14⟩) (c14 : PySem.W.codeIn K cd14 "read_head" = true) (k14 : PySem.W.keepIn K (.ref f14) = true)
    (a15 : PySem.W.nsIn K mainGlobals "read_refusal" = some (some (.ref f15))) (l15 : K.lookup f15 = some ⟨oc15, od15, .func (PySem.W.fnOf "read_refusal" "read_refusal" (defArgs s_read_refusal) (defBody s_read_refusal) (defScope s_read_refusal) .none kV15 dc15 pm15 an15 cd15 ct15), sl15⟩) (c15 : PySem.W.codeIn K cd15 "read_refusal" = true) (k15 : PySem.W.keepIn K (.ref f15) = true)
    (a16 : PySem.W.nsIn K mainGlobals "read_row" = some (some (.ref f16))) (l16 : K.lookup f16 = some ⟨oc16, od16, .func (PySem.W.fnOf "read_row" "read_row" (defArgs s_read_row) (defBody s_read_row) (defScope s_read_row) .none kV16 dc16 pm16 an16 cd16 ct16), sl16⟩) (c16 : PySem.W.codeIn K cd16 "read_row" = true) (k16 : PySem.W.keepIn K (.ref f16) = true)
    (a17 : PySem.W.nsIn K mainGlobals "read_parts" = some (some (.ref f17))) (l17 : K.lookup f17 = some ⟨oc17, od17, .func (PySem.W.fnOf "read_parts" "read_parts" (defArgs s_read_parts) (defBody s_read_parts) (defScope s_read_parts) .none kV17 dc17 pm17 an17 cd17 ct17), sl17⟩) (c17 : PySem.W.codeIn K cd17 "read_parts" = true) (k17 : PySem.W.keepIn K (.ref f17) = true)
    (a18 : PySem.W.nsIn K mainGlobals "read_body" = some (some (.ref f18))) (l18 : K.lookup f18 = some ⟨oc18, od18, .func (PySem.W.fnOf "read_body" "read_body" (defArgs s_read_body) (defBody s_read_body) (defScope s_read_body) .none kV18 dc18 pm18 an18 cd18 ct18), sl18⟩) (c18 : PySem.W.codeIn K cd18 "read_body" = true) (k18 : PySem.W.keepIn K (.ref f18) = true)
    (a19 : PySem.W.nsIn K mainGlobals "_law_row" = some (some (.ref f19))) (l19 : K.lookup f19 = some ⟨oc19, od19, .func (PySem.W.fnOf "_law_row" "_law_row" (defArgs s__law_row) (defBody s__law_row) (defScope s__law_row) .none kV19 dc19 pm19 an19 cd19 ct19), sl19⟩) (c19 : PySem.W.codeIn K cd19 "_law_row" = true) (k19 : PySem.W.keepIn K (.ref f19) = true)
    (a20 : PySem.W.nsIn K mainGlobals "_law_numbers" = some (some (.ref f20))) (l20 : K.lookup f20 = some ⟨oc20, od20, .func (PySem.W.fnOf "_law_numbers" "_law_numbers" (defArgs s__law_numbers) (defBody s__law_numbers) (defScope s__law_numbers) .none kV20 dc20 pm20 an20 cd20 ct20), sl20⟩) (c20 : PySem.W.codeIn K cd20 "_law_numbers" = true) (k20 : PySem.W.keepIn K (.ref f20) = true)
    (a21 : PySem.W.nsIn K mainGlobals "_law_row_body" = some (some (.ref f21))) (l21 : K.lookup f21 = some ⟨oc21, od21, .func (PySem.W.fnOf "_law_row_body" "_law_row_body" (defArgs s__law_row_body) (defBody s__law_row_body) (defScope s__law_row_body) .none kV21 dc21 pm21 an21 cd21 ct21), sl21⟩) (c21 : PySem.W.codeIn K cd21 "_law_row_body" = true) (k21 : PySem.W.keepIn K (.ref f21) = true)
    (a22 : PySem.W.nsIn K mainGlobals "_law_head_body" = some (some (.ref f22))) (l22 : K.lookup f22 = some ⟨oc22, od22, .func (PySem.W.fnOf "_law_head_body" "_law_head_body" (defArgs s__law_head_body) (defBody s__law_head_body) (defScope s__law_head_body) .none kV22 dc22 pm22 an22 cd22 ct22), sl22⟩) (c22 : PySem.W.codeIn K cd22 "_law_head_body" = true) (k22 : PySem.W.keepIn K (.ref f22) = true)
    (a23 : PySem.W.nsIn K mainGlobals "_law_view_words" = some (some (.ref f23))) (l23 : K.lookup f23 = some ⟨oc23, od23, .func (PySem.W.fnOf "_law_view_words" "_law_view_words" (defArgs s__law_view_words) (defBody s__law_view_words) (defScope s__law_view_words) .none kV23 dc23 pm23 an23 cd23 ct23), sl23⟩) (c23 : PySem.W.codeIn K cd23 "_law_view_words" = true) (k23 : PySem.W.keepIn K (.ref f23) = true)
    (a24 : PySem.W.nsIn K mainGlobals "_law_view_body" = some (some (.ref f24))) (l24 : K.lookup f24 = some ⟨oc24, od24, .func (PySem.W.fnOf "_law_view_body" "_law_view_body" (defArgs s__law_view_body) (defBody s__law_view_body) (defScope s__law_view_body) .none kV24 dc24 pm24 an24 cd24 ct24), sl24⟩) (c24 : PySem.W.codeIn K cd24 "_law_view_body" = true) (k24 : PySem.W.keepIn K (.ref f24) = true)
    (a25 : PySem.W.nsIn K mainGlobals "_law_names" = some (some (.ref f25))) (l25 : K.lookup f25 = some ⟨oc25, od25, .func (PySem.W.fnOf "_law_names" "_law_names" (defArgs s__law_names) (defBody s__law_names) (defScope s__law_names) .none kV25 dc25 pm25 an25 cd25 ct25), sl25⟩) (c25 : PySem.W.codeIn K cd25 "_law_names" = true) (k25 : PySem.W.keepIn K (.ref f25) = true)
    (a26 : PySem.W.nsIn K mainGlobals "_law_view" = some (some (.ref f26))) (l26 : K.lookup f26 = some ⟨oc26, od26, .func (PySem.W.fnOf "_law_view" "_law_view" (defArgs s__law_view) (defBody s__law_view) (defScope s__law_view) .none kV26 dc26 pm26 an26 cd26 ct26), sl26⟩) (c26 : PySem.W.codeIn K cd26 "_law_view" = true) (k26 : PySem.W.keepIn K (.ref f26) = true)
    (a27 : PySem.W.nsIn K mainGlobals "_law_keeper_row" = some (some (.ref f27))) (l27 : K.lookup f27 = some ⟨oc27, od27, .func (PySem.W.fnOf "_law_keeper_row" "_law_keeper_row" (defArgs s__law_keeper_row) (defBody s__law_keeper_row) (defScope s__law_keeper_row) .none kV27 dc27 pm27 an27 cd27 ct27), sl27⟩) (c27 : PySem.W.codeIn K cd27 "_law_keeper_row" = true) (k27 : PySem.W.keepIn K (.ref f27) = true)
    (a28 : PySem.W.nsIn K mainGlobals "_law_wrong_bodies" = some (some (.ref f28))) (l28 : K.lookup f28 = some ⟨oc28, od28, .func (PySem.W.fnOf "_law_wrong_bodies" "_law_wrong_bodies" (defArgs s__law_wrong_bodies) (defBody s__law_wrong_bodies) (defScope s__law_wrong_bodies) .none kV28 dc28 pm28 an28 cd28 ct28), sl28⟩) (c28 : PySem.W.codeIn K cd28 "_law_wrong_bodies" = true) (k28 : PySem.W.keepIn K (.ref f28) = true)
    (a29 : PySem.W.nsIn K mainGlobals "law" = some (some (.ref f29))) (l29 : K.lookup f29 = some ⟨oc29, od29, .func (PySem.W.fnOf "law" "law" (defArgs s_law) (defBody s_law) (defScope s_law) .none kV29 dc29 pm29 an29 cd29 ct29), sl29⟩) (c29 : PySem.W.codeIn K cd29 "law" = true) (k29 : PySem.W.keepIn K (.ref f29) = true)
    (z_abs : PySem.W.nsIn K mainGlobals "abs" = some none)
    (z_all : PySem.W.nsIn K mainGlobals "all" = some none)
    (z_int : PySem.W.nsIn K mainGlobals "int" = some none)
    (z_isinstance : PySem.W.nsIn K mainGlobals "isinstance" = some none)
    (z_len : PySem.W.nsIn K mainGlobals "len" = some none)
    (z_list : PySem.W.nsIn K mainGlobals "list" = some none)
    (z_max : PySem.W.nsIn K mainGlobals "max" = some none)
    (z_min : PySem.W.nsIn K mainGlobals "min" = some none)
    (z_range : PySem.W.nsIn K mainGlobals "range" = some none)
    (z_repr : PySem.W.nsIn K mainGlobals "repr" = some none)
    (z_set : PySem.W.nsIn K mainGlobals "set" = some none)
    (z_sorted : PySem.W.nsIn K mainGlobals "sorted" = some none)
    (z_str : PySem.W.nsIn K mainGlobals "str" = some none)
    (z_tuple : PySem.W.nsIn K mainGlobals "tuple" = some none)
    {t_LETTERS : Tok} (y_LETTERS : PySem.W.nsIn K mainGlobals "LETTERS" = some (some (.str "abcdefghijklmnopqrstuvwxyz0123456789" t_LETTERS)))
    {t_MOST_MOMENT : Tok} (y_MOST_MOMENT : PySem.W.nsIn K mainGlobals "MOST_MOMENT" = some (some (.int 1000000000 t_MOST_MOMENT)))
    {t_DIGITS : Tok} (y_DIGITS : PySem.W.nsIn K mainGlobals "DIGITS" = some (some (.str "0123456789" t_DIGITS)))
    {t_MOST_HOUSES : Tok} (y_MOST_HOUSES : PySem.W.nsIn K mainGlobals "MOST_HOUSES" = some (some (.int 8 t_MOST_HOUSES)))
    {t_NONE : Tok} (y_NONE : PySem.W.nsIn K mainGlobals "NONE" = some (some (.str "none" t_NONE)))
    {t_NEVER : Tok} (y_NEVER : PySem.W.nsIn K mainGlobals "NEVER" = some (some (.str "never" t_NEVER))) :
    ∃ fd : FuncData, (∀ (s : Shared) (v : Value), BindsTo s fd ⟨[v], []⟩ [("_law_script", v)]) ∧ ∀ base : Heap, K.In base → base.Ns mainGlobals mg → FnG l.prog w K mg base CX0 6 fa fd ["_law_script"] (sp_law K) := by
  have e := hfa.symm.trans (PySem.W.mg_of X G a29)
  cases e
  have F0 := fun_mk (st := s_is_name) l0 c0 k0
  have F1 := fun_mk (st := s_is_key) l1 c1 k1
  have F2 := fun_mk (st := s_ascends) l2 c2 k2
  have F3 := fun_mk (st := s_is_entry) l3 c3 k3
  have F4 := fun_mk (st := s_read_number) l4 c4 k4
  have F5 := fun_mk (st := s_read_entry) l5 c5 k5
  have F6 := fun_mk (st := s_number_or_none) l6 c6 k6
  have F7 := fun_mk (st := s_view_words) l7 c7 k7
  have F8 := fun_mk (st := s_view_body) l8 c8 k8
  have F9 := fun_mk (st := s_head_body) l9 c9 k9
  have F10 := fun_mk (st := s_word_of) l10 c10 k10
  have F11 := fun_mk (st := s_row_body) l11 c11 k11
  have F12 := fun_mk (st := s_read_moment) l12 c12 k12
  have F13 := fun_mk (st := s_read_view) l13 c13 k13
  have F14 := fun_mk (st := s_read_head) l14 c14 k14
  have F15 := fun_mk (st := s_read_refusal) l15 c15 k15
  have F16 := fun_mk (st := s_read_row) l16 c16 k16
  have F17 := fun_mk (st := s_read_parts) l17 c17 k17
  have F18 := fun_mk (st := s_read_body) l18 c18 k18
  have F19 := fun_mk (st := s__law_row) l19 c19 k19
  have F20 := fun_mk (st := s__law_numbers) l20 c20 k20
  have F21 := fun_mk (st := s__law_row_body) l21 c21 k21
  have F22 := fun_mk (st := s__law_head_body) l22 c22 k22
  have F23 := fun_mk (st := s__law_view_words) l23 c23 k23
  have F24 := fun_mk (st := s__law_view_body) l24 c24 k24
  have F25 := fun_mk (st := s__law_names) l25 c25 k25
  have F26 := fun_mk (st := s__law_view) l26 c26 k26
  have F27 := fun_mk (st := s__law_keeper_row) l27 c27 k27
  have F28 := fun_mk (st := s__law_wrong_bodies) l28 c28 k28
  have F29 := fun_mk (st := s_law) l29 c29 k29
  have b0 := F0.binds (ps := ["text"]) fun _ _ _ _ _ _ us hl => match us, hl with | [_], _ => rfl
  have b1 := F1.binds (ps := ["text"]) fun _ _ _ _ _ _ us hl => match us, hl with | [_], _ => rfl
  have b2 := F2.binds (ps := ["names"]) fun _ _ _ _ _ _ us hl => match us, hl with | [_], _ => rfl
  have b3 := F3.binds (ps := ["entry"]) fun _ _ _ _ _ _ us hl => match us, hl with | [_], _ => rfl
  have b4 := F4.binds (ps := ["part", "digits"]) fun _ _ _ _ _ _ us hl => match us, hl with | [_, _], _ => rfl
  have b5 := F5.binds (ps := ["line"]) fun _ _ _ _ _ _ us hl => match us, hl with | [_], _ => rfl
  have b6 := F6.binds (ps := ["number"]) fun _ _ _ _ _ _ us hl => match us, hl with | [_], _ => rfl
  have b7 := F7.binds (ps := ["view"]) fun _ _ _ _ _ _ us hl => match us, hl with | [_], _ => rfl
  have b8 := F8.binds (ps := ["view"]) fun _ _ _ _ _ _ us hl => match us, hl with | [_], _ => rfl
  have b9 := F9.binds (ps := ["many", "entries", "moment", "view"]) fun _ _ _ _ _ _ us hl => match us, hl with | [_, _, _, _], _ => rfl
  have b10 := F10.binds (ps := ["row"]) fun _ _ _ _ _ _ us hl => match us, hl with | [_], _ => rfl
  have b11 := F11.binds (ps := ["row"]) fun _ _ _ _ _ _ us hl => match us, hl with | [_], _ => rfl
  have b12 := F12.binds (ps := ["word"]) fun _ _ _ _ _ _ us hl => match us, hl with | [_], _ => rfl
  have b13 := F13.binds (ps := ["words"]) fun _ _ _ _ _ _ us hl => match us, hl with | [_], _ => rfl
  have b14 := F14.binds (ps := ["words"]) fun _ _ _ _ _ _ us hl => match us, hl with | [_], _ => rfl
  have b15 := F15.binds (ps := ["words", "moment"]) fun _ _ _ _ _ _ us hl => match us, hl with | [_, _], _ => rfl
  have b16 := F16.binds (ps := ["words"]) fun _ _ _ _ _ _ us hl => match us, hl with | [_], _ => rfl
  have b17 := F17.binds (ps := ["word", "words", "body"]) fun _ _ _ _ _ _ us hl => match us, hl with | [_, _, _], _ => rfl
  have b18 := F18.binds (ps := ["body"]) fun _ _ _ _ _ _ us hl => match us, hl with | [_], _ => rfl
  have b19 := F19.binds (ps := ["_law_cell", "_law_many"]) fun _ _ _ _ _ _ us hl => match us, hl with | [_, _], _ => rfl
  have b20 := F20.binds (ps := ["_law_script", "_law_many"]) fun _ _ _ _ _ _ us hl => match us, hl with | [_, _], _ => rfl
  have b21 := F21.binds (ps := ["_law_row_here"]) fun _ _ _ _ _ _ us hl => match us, hl with | [_], _ => rfl
  have b22 := F22.binds (ps := ["_law_rows", "_law_entries", "_law_moment", "_law_view_here"]) fun _ _ _ _ _ _ us hl => match us, hl with | [_, _, _, _], _ => rfl
  have b23 := F23.binds (ps := ["_law_view_here"]) fun _ _ _ _ _ _ us hl => match us, hl with | [_], _ => rfl
  have b24 := F24.binds (ps := ["_law_view_here"]) fun _ _ _ _ _ _ us hl => match us, hl with | [_], _ => rfl
  have b25 := F25.binds (ps := ["_law_numbers_here", "_law_at", "_law_many"]) fun _ _ _ _ _ _ us hl => match us, hl with | [_, _, _], _ => rfl
  have b26 := F26.binds (ps := ["_law_numbers_here", "_law_at"]) fun _ _ _ _ _ _ us hl => match us, hl with | [_, _], _ => rfl
  have b27 := F27.binds (ps := ["_law_numbers_here", "_law_at"]) fun _ _ _ _ _ _ us hl => match us, hl with | [_, _], _ => rfl
  have b28 := F28.binds (ps := []) fun _ _ _ _ _ _ us hl => match us, hl with | [], _ => rfl
  have b29 := F29.binds (ps := ["_law_script"]) fun _ _ _ _ _ _ us hl => match us, hl with | [_], _ => rfl
  have T : Txt l.prog K mg ⟨f0, f1, f2, f3, f4, f5, f6, f7, f8, f9, f10, f11, f12, f13, f14, f15, f16, f17, f18, f19, f20, f21, f22, f23, f24, f25, f26, f27, f28, fa, _, _, _, _, _, _, _, _, _, _, _, _, _, _, _, _, _, _, _, _, _, _, _, _, _, _, _, _, _, _⟩ := ⟨F0, PySem.W.mg_of X G a0, b0, F1, PySem.W.mg_of X G a1, b1, F2, PySem.W.mg_of X G a2, b2, F3, PySem.W.mg_of X G a3, b3, F4, PySem.W.mg_of X G a4, b4, F5, PySem.W.mg_of X G a5, b5, F6, PySem.W.mg_of X G a6, b6, F7, PySem.W.mg_of X G a7, b7, F8, PySem.W.mg_of X G a8, b8, F9, PySem.W.mg_of X G a9, b9, F10, PySem.W.mg_of X G a10, b10, F11, PySem.W.mg_of X G a11, b11, F12, PySem.W.mg_of X G a12, b12, F13, PySem.W.mg_of X G a13, b13, F14, PySem.W.mg_of X G a14, b14, F15, PySem.W.mg_of X G a15, b15, F16, PySem.W.mg_of X G a16, b16, F17, PySem.W.mg_of X G a17, b17, F18, PySem.W.mg_of X G a18, b18, F19, PySem.W.mg_of X G a19, b19, F20, PySem.W.mg_of X G a20, b20, F21, PySem.W.mg_of X G a21, b21, F22, PySem.W.mg_of X G a22, b22, F23, PySem.W.mg_of X G a23, b23, F24, PySem.W.mg_of X G a24, b24, F25, PySem.W.mg_of X G a25, b25, F26, PySem.W.mg_of X G a26, b26, F27, PySem.W.mg_of X G a27, b27, F28, PySem.W.mg_of X G a28, b28, F29, PySem.W.mg_of X G a29, b29, PySem.W.mg_none_of X G z_abs, PySem.W.mg_none_of X G z_all, PySem.W.mg_none_of X G z_int, PySem.W.mg_none_of X G z_isinstance, PySem.W.mg_none_of X G z_len, PySem.W.mg_none_of X G z_list, PySem.W.mg_none_of X G z_max, PySem.W.mg_none_of X G z_min, PySem.W.mg_none_of X G z_range, PySem.W.mg_none_of X G z_repr, PySem.W.mg_none_of X G z_set, PySem.W.mg_none_of X G z_sorted, PySem.W.mg_none_of X G z_str, PySem.W.mg_none_of X G z_tuple, ⟨_, PySem.W.mg_of X G y_LETTERS, ⟨_, rfl⟩⟩, ⟨_, PySem.W.mg_of X G y_MOST_MOMENT, ⟨_, rfl⟩⟩, ⟨_, PySem.W.mg_of X G y_DIGITS, ⟨_, rfl⟩⟩, ⟨_, PySem.W.mg_of X G y_MOST_HOUSES, ⟨_, rfl⟩⟩, ⟨_, PySem.W.mg_of X G y_NONE, ⟨_, rfl⟩⟩, ⟨_, PySem.W.mg_of X G y_NEVER, ⟨_, rfl⟩⟩⟩
  exact ⟨_, fun s v => .of_eq rfl, fun base _ _ => ok_law T⟩
end Lw
open PySem PySem.W PyProof.Rows
set_option maxRecDepth 100000 in
set_option maxHeartbeats 0 in
theorem PySem.Challenge.cw_limitweave_k40_bodies_holds : PySem.Challenge.rw_limitweave_k40_bodies.Holds := by
  w_on; o_law; k_head; (case hw => w_witness2)
  k_fill
  refine Lw.walk_ofGK (l := PySem.Challenge.rw_limitweave_k40_bodies) (n := 63) (k := 6) (x := "_law_script") (sp := fun w => Lw.sp_law _) rfl (by decide) rfl ⟨rfl, by decide, by decide⟩ (fun w h Y => PySem.W.kIn_of Y) ?F (fun _ _ a ns hl _ hS => ⟨a, ns, rfl, hS, hl, fun _ => rfl⟩)
  case F =>
    intro w mg fa h KX G hmg
    refine' Lw.all_mk KX G hmg ?a0 ?l0 ?c0 ?k0 ?a1 ?l1 ?c1 ?k1 ?a2 ?l2 ?c2 ?k2 ?a3 ?l3 ?c3 ?k3 ?a4 ?l4 ?c4 ?k4 ?a5 ?l5 ?c5 ?k5 ?a6 ?l6 ?c6 ?k6 ?a7 ?l7 ?c7 ?k7 ?a8 ?l8 ?c8 ?k8 ?a9 ?l9 ?c9 ?k9 ?a10 ?l10 ?c10 ?k10 ?a11 ?l11 ?c11 ?k11 ?a12 ?l12 ?c12 ?k12 ?a13 ?l13 ?c13 ?k13 ?a14 ?l14 ?c14 ?k14 ?a15 ?l15 ?c15 ?k15 ?a16 ?l16 ?c16 ?k16 ?a17 ?l17 ?c17 ?k17 ?a18 ?l18 ?c18 ?k18 ?a19 ?l19 ?c19 ?k19 ?a20 ?l20 ?c20 ?k20 ?a21 ?l21 ?c21 ?k21 ?a22 ?l22 ?c22 ?k22 ?a23 ?l23 ?c23 ?k23 ?a24 ?l24 ?c24 ?k24 ?a25 ?l25 ?c25 ?k25 ?a26 ?l26 ?c26 ?k26 ?a27 ?l27 ?c27 ?k27 ?a28 ?l28 ?c28 ?k28 ?a29 ?l29 ?c29 ?k29 ?z_abs ?z_all ?z_int ?z_isinstance ?z_len ?z_list ?z_max ?z_min ?z_range ?z_repr ?z_set ?z_sorted ?z_str ?z_tuple ?y_LETTERS ?y_MOST_MOMENT ?y_DIGITS ?y_MOST_HOUSES ?y_NONE ?y_NEVER
    (case a0 => k_is)
    (case l0 => k_is)
    (case c0 => k_is)
    (case k0 => k_is)
    (case a1 => k_is)
    (case l1 => k_is)
    (case c1 => k_is)
    (case k1 => k_is)
    (case a2 => k_is)
    (case l2 => k_is)
    (case c2 => k_is)
    (case k2 => k_is)
    (case a3 => k_is)
    (case l3 => k_is)
    (case c3 => k_is)
    (case k3 => k_is)
    (case a4 => k_is)
    (case l4 => k_is)
    (case c4 => k_is)
    (case k4 => k_is)
    (case a5 => k_is)
    (case l5 => k_is)
    (case c5 => k_is)
    (case k5 => k_is)
    (case a6 => k_is)
    (case l6 => k_is)
    (case c6 => k_is)
    (case k6 => k_is)
    (case a7 => k_is)
    (case l7 => k_is)
    (case c7 => k_is)
    (case k7 => k_is)
    (case a8 => k_is)
    (case l8 => k_is)
    (case c8 => k_is)
    (case k8 => k_is)
    (case a9 => k_is)
    (case l9 => k_is)
    (case c9 => k_is)
    (case k9 => k_is)
    (case a10 => k_is)
    (case l10 => k_is)
    (case c10 => k_is)
    (case k10 => k_is)
    (case a11 => k_is)
    (case l11 => k_is)
    (case c11 => k_is)
    (case k11 => k_is)
    (case a12 => k_is)
    (case l12 => k_is)
    (case c12 => k_is)
    (case k12 => k_is)
    (case a13 => k_is)
    (case l13 => k_is)
    (case c13 => k_is)
    (case k13 => k_is)
    (case a14 => k_is)
    (case l14 => k_is)
    (case c14 => k_is)
    (case k14 => k_is)
    (case a15 => k_is)
    (case l15 => k_is)
    (case c15 => k_is)
    (case k15 => k_is)
    (case a16 => k_is)
    (case l16 => k_is)
    (case c16 => k_is)
    (case k16 => k_is)
    (case a17 => k_is)
    (case l17 => k_is)
    (case c17 => k_is)
    (case k17 => k_is)
    (case a18 => k_is)
    (case l18 => k_is)
    (case c18 => k_is)
    (case k18 => k_is)
    (case a19 => k_is)
    (case l19 => k_is)
    (case c19 => k_is)
    (case k19 => k_is)
    (case a20 => k_is)
    (case l20 => k_is)
    (case c20 => k_is)
    (case k20 => k_is)
    (case a21 => k_is)
    (case l21 => k_is)
    (case c21 => k_is)
    (case k21 => k_is)
    (case a22 => k_is)
    (case l22 => k_is)
    (case c22 => k_is)
    (case k22 => k_is)
    (case a23 => k_is)
    (case l23 => k_is)
    (case c23 => k_is)
    (case k23 => k_is)
    (case a24 => k_is)
    (case l24 => k_is)
    (case c24 => k_is)
    (case k24 => k_is)
    (case a25 => k_is)
    (case l25 => k_is)
    (case c25 => k_is)
    (case k25 => k_is)
    (case a26 => k_is)
    (case l26 => k_is)
    (case c26 => k_is)
    (case k26 => k_is)
    (case a27 => k_is)
    (case l27 => k_is)
    (case c27 => k_is)
    (case k27 => k_is)
    (case a28 => k_is)
    (case l28 => k_is)
    (case c28 => k_is)
    (case k28 => k_is)
    (case a29 => k_is)
    (case l29 => k_is)
    (case c29 => k_is)
    (case k29 => k_is)
    (case z_abs => k_is)
    (case z_all => k_is)
    (case z_int => k_is)
    (case z_isinstance => k_is)
    (case z_len => k_is)
    (case z_list => k_is)
    (case z_max => k_is)
    (case z_min => k_is)
    (case z_range => k_is)
    (case z_repr => k_is)
    (case z_set => k_is)
    (case z_sorted => k_is)
    (case z_str => k_is)
    (case z_tuple => k_is)
    (case y_LETTERS => k_is)
    (case y_MOST_MOMENT => k_is)
    (case y_DIGITS => k_is)
    (case y_MOST_HOUSES => k_is)
    (case y_NONE => k_is)
    (case y_NEVER => k_is)
