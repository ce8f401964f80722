import PyProof.Rows.All
import Wide.All
import OpenK.AllK
import Wide.FinOn
import KE.GoesEnum
import KE.GoesMore
import HandS.ForMost
import HandS.Evl
import HandS.FStr
import HandS.StrMore
import HandS.StrSplit
import HandS.Walk
import HandS.RaiseMore
import HandS.IsInst
import HandS.Dict
import HandS.ForSpec
import HandS.Exc
import HandS.ExcField
import HandS.ExcIs
import KE.KExcIs
import KE.RegKIsAll
import KE.KExcSuper
import HandS.RaiseFrom
import HandS.SuiteRaise
import HandS.Replace
import HandS.ReplaceLit
import HandS.TryMany
import HandS.Strs
import HandS.Style
import HandS.SortInts
import HandS.TupAny
import HandS.HeadEnd
import PyProof.ReprRoads
import PySem.Challenge.RW_limitweave_k39_whole_records
set_option Elab.async false
set_option linter.all false
set_option maxRecDepth 100000
set_option maxHeartbeats 4000000
namespace PySem
end PySem
namespace L2
open PySem PySem.Spec PyProof.Rows
section
variable {X : Cx} {nm f : Str} {C fI : Addr}
/-- X(e), X an own error with one field f -/
def tMkErr (C : Addr) (f : Str) (ta : TA) : St → Hp → XK → Prop := fun σ H Q => ta σ H fun vs H1 => ∃ v, vs = [v] ∧ ∀ d, H1 d = none → Q (.ref C) (some d) (upd H1 d (.xd [(f, v)]))
/-- raise X(e), where nothing is handled: for a def whose errors have no context (L2N), and for any -/
def tRaise (C : Addr) (f : Str) (W : WX) (ta : TA) : TS := fun _ σ H => tMkErr C f ta σ H fun cls d H' => W cls d σ H'
/-- isinstance(e, c), e the exception that the suite holds, with a dict of its own -/
def rIsED (K : PySem.W.Frag) (D a : Addr) (cls : Value) (d : Option Addr) : List V → Hp → VK → Prop := fun xs H Q => ∃ (c : V) (cv : Value) (b : Bool) (dd : Addr) (fs : List (Str × V)), xs = [.ref a, c] ∧ cls = .ref D ∧ (∀ u, RelV c u → u = cv) ∧ PySem.W.kitOne K (.ref D) cv = some b ∧ d = some dd ∧ H dd = some (.xd fs) ∧ Q (.bl b) H
end
end L2
namespace PySem
open Builtin Builtin.Str
end PySem
namespace L2
open PySem PySem.Spec PyProof.Rows
/-- o.replace(y, z, 1), y written, in the text -/
def rRepl1 (y z : Str) : V → Hp → VK → Prop := fun v H1 Q => ∃ x : Str, v = .str x ∧ x.length ≤ 100000 ∧ y.length ≤ 10 ∧ 0 < y.length ∧ z.length ≤ 10 ∧ Builtin.Str.occurrences x y 0 x.length 1 ≠ [] ∧ (Builtin.Str.glued z (Builtin.Str.partsBetween x (Builtin.Str.occurrences x y 0 x.length 1) y.length)).length ≤ sizeLine ∧ Q (.str (Builtin.Str.glued z (Builtin.Str.partsBetween x (Builtin.Str.occurrences x y 0 x.length 1) y.length))) H1
def tRepl1 (to : TE) (y z : Str) : TE := fun σ H Q => to σ H fun v H1 => rRepl1 y z v H1 Q
end L2
namespace Lw
open PySem PySem.Spec PyProof.Rows L2
open Evl (Ex)
/-! ### A. stepping through a reading, from the left: one lemma a combinator -/
section
variable {K : PySem.W.Frag} {σ : L2.St} {H : Hp} {D : Ends} {Q : VK} {QB : Bool → Hp → Prop} {te ta tb tc : TE} {tt tu : TT} {t u : TS} {g : TG} {v x y : V} {i j : Int} {b : Bool}
theorem g_seq (q : t { D with nx := u D } σ H) : tSeq t u D σ H := q
theorem g_next (q : D.nx σ H) : tNext D σ H := q
theorem g_asg (q : te σ H (fun x H1 => g x σ H1 D.nx)) : tAsg te g D σ H := q
theorem g_name {n : Nat} {Qs : L2.St → Hp → Prop} (q : Qs (σ.set n (some v)) H) : gName n v σ H Qs := q
theorem g_ret (q : te σ H D.rt) : tRet te D σ H := q
theorem g_drop (q : te σ H fun _ H1 => D.nx σ H1) : tDrop te D σ H := q
theorem g_ifS (q : tt σ H fun b H1 => if b = true then t D σ H1 else u D σ H1) : tIfS tt t u D σ H := q
theorem g_var {n : Nat} (h : σ[n]? = some (some v)) (q : Q v H) : tVar n σ H Q := ⟨v, h, q⟩
theorem g_c (q : Q v H) : tC v σ H Q := q
theorem g_op {r : R2} (q : ta σ H fun x H1 => tb σ H1 fun y H2 => r x y H2 Q) : tOp r ta tb σ H Q := q
theorem g_un {r : V → Hp → VK → Prop} (q : ta σ H fun x H1 => r x H1 Q) : tUn r ta σ H Q := q
theorem g_chain {r r' : R2} (q : ta σ H fun x H1 => tb σ H1 fun y H2 => r x y H2 fun z H3 => ∃ k, z = .bl k ∧ (if k = true then tc σ H3 fun w' H4 => r' y w' H4 Q else Q (.bl false) H3)) : tChain r r' ta tb tc σ H Q := q
theorem g_rI0 {f : Int → Int → V} (q : Q (f i j) H) : rI0 f (.int i) (.int j) H Q := ⟨i, j, rfl, rfl, q⟩
theorem g_rI {C : Int → Int → Prop} {f : Int → Int → V} (hc : C i j) (q : Q (f i j) H) : rI C f (.int i) (.int j) H Q := ⟨i, j, rfl, rfl, hc, q⟩
theorem g_rU {f : Int → V} (q : Q (f i) H) : rU f (.int i) H Q := ⟨i, rfl, q⟩
theorem g_ipI {f : Int → Int → Int} (q : Q (.int (f i j)) H) : ipI f (.int i) (.int j) H Q := ⟨i, j, rfl, rfl, q⟩
theorem g_test (q : te σ H fun x H' => ∃ k, x = .bl k ∧ QB k H') : tTest te σ H QB := q
theorem g_tB (q : te σ H fun x H' => ∃ k, x = .bl k ∧ QB k H') : tB te σ H QB := q
theorem g_bl {P : Bool → Prop} (q : P b) : ∃ k, V.bl b = .bl k ∧ P k := ⟨b, rfl, q⟩
theorem g_not (q : tt σ H fun c H1 => QB (!c) H1) : tNot tt σ H QB := q
theorem g_and (q : tt σ H fun c H1 => if c = true then tu σ H1 QB else QB false H1) : tAnd tt tu σ H QB := q
theorem g_or (q : tt σ H fun c H1 => if c = true then QB true H1 else tu σ H1 QB) : tOr tt tu σ H QB := q
theorem g_andV (q : ta σ H fun x H1 => ∃ c, x = .bl c ∧ if c = true then tb σ H1 Q else Q (.bl false) H1) : tAndV ta tb σ H Q := q
theorem g_orV (q : ta σ H fun x H1 => ∃ c, x = .bl c ∧ if c = true then Q (.bl true) H1 else tb σ H1 Q) : tOrV ta tb σ H Q := q
theorem g_notV (q : ta σ H fun x H1 => ∃ c, x = .bl c ∧ Q (.bl (!c)) H1) : tNotV ta σ H Q := q
theorem g_if (q : tt σ H fun c H1 => if c = true then ta σ H1 Q else tb σ H1 Q) : tIf tt ta tb σ H Q := q
theorem g_tup {t : TA} (q : t σ H fun xs H1 => xs.length ≤ sizeLine ∧ ∀ p, H1 p = none → Q (.ref p) (upd H1 p (.tup xs))) : tTup t σ H Q := q
theorem g_lst {t : TA} (q : t σ H fun xs H1 => xs.length ≤ sizeLine ∧ ∀ p, H1 p = none → Q (.ref p) (upd H1 p (.lst xs))) : tLst t σ H Q := q
theorem g_nil {R : List V → Hp → Prop} (q : R [] H) : tNil σ H R := q
theorem g_cons {t : TA} {R : List V → Hp → Prop} (q : te σ H fun x H1 => t σ H1 fun xs H2 => R (x :: xs) H2) : tCons te t σ H R := q
theorem g_call {sp : Sp} {dvs : List V} {E : XK} {t : TA} (q : t σ H fun vs H1 => sp (vs ++ dvs) H1 Q E) : tCall sp dvs E t σ H Q := q
theorem g_cb {r : List V → Hp → VK → Prop} {t : TA} (q : t σ H fun vs H1 => r vs H1 Q) : tCB r t σ H Q := q
theorem g_bm {T : String} {r : V → List V → Hp → VK → Prop} {t : TA} (q : te σ H fun x H1 => tyV K T x H1 ∧ t σ H1 fun xs H2 => r x xs H2 Q) : tBM K T r te t σ H Q := q
theorem g_bm0 {T : String} {r : V → List V → Hp → VK → Prop} (q : te σ H fun x H1 => tyV K T x H1 ∧ r x [] H1 Q) : tBM0 K T r te σ H Q := q
theorem g_m0 {r : V → List V → Hp → VK → Prop} (q : te σ H fun x H1 => (∃ a, x = .str a) ∧ r x [] H1 Q) : tM0 r te σ H Q := q
theorem g_m1 {r : V → List V → Hp → VK → Prop} (q : te σ H fun x H1 => (∃ a, x = .str a) ∧ ta σ H1 fun y H2 => r x [y] H2 Q) : tM1 r te ta σ H Q := q
theorem g_sl {r : V → Option Int → Option Int → Hp → VK → Prop} {tl th : TO} (q : te σ H fun x H1 => tl σ H1 fun l H2 => th σ H2 fun u H3 => r x l u H3 Q) : tSl r te tl th σ H Q := q
theorem g_nop {R : Option Int → Hp → Prop} (q : R none H) : tNoPart σ H R := q
theorem g_part {R : Option Int → Hp → Prop} (q : te σ H fun x H1 => ∃ i, x = .int i ∧ R (some i) H1) : tPart te σ H R := q
theorem g_isI {P : Int → Prop} (q : P i) : ∃ k, V.int i = .int k ∧ P k := ⟨i, rfl, q⟩
theorem g_isS {P : Prop} {z : Str} (q : P) : (∃ a, V.str z = .str a) ∧ P := ⟨⟨z, rfl⟩, q⟩
theorem g_aug {n : Nat} {ti : TIp} (h : σ[n]? = some (some v)) (q : te σ H fun y H1 => ti v y H1 fun z H2 => D.nx (σ.set n (some z)) H2) : tAug n te ti D σ H := ⟨v, h, q⟩
/-! equality of scalars -/
theorem g_eqI (q : Q (.bl (decide (i = j))) H) : rEq (.int i) (.int j) H Q := ⟨rfl, by
  have e : decide (V.int i = V.int j) = decide (i = j) := by by_cases h : i = j <;> simp [h]
  rw [e]; exact q⟩
theorem g_neI (q : Q (.bl (!decide (i = j))) H) : rNe (.int i) (.int j) H Q := ⟨rfl, by
  have e : decide (V.int i = V.int j) = decide (i = j) := by by_cases h : i = j <;> simp [h]
  rw [e]; exact q⟩
theorem g_eqS {z w : Str} (q : Q (.bl (decide (z = w))) H) : rEq (.str z) (.str w) H Q := ⟨rfl, by
  have e : decide (V.str z = V.str w) = decide (z = w) := by by_cases h : z = w <;> simp [h]
  rw [e]; exact q⟩
theorem g_neS {z w : Str} (q : Q (.bl (!decide (z = w))) H) : rNe (.str z) (.str w) H Q := ⟨rfl, by
  have e : decide (V.str z = V.str w) = decide (z = w) := by by_cases h : z = w <;> simp [h]
  rw [e]; exact q⟩
/-! ways -/
theorem w_ite {P R : Prop} (h1 : b = true → P) (h2 : b = false → R) : if b = true then P else R := by
  cases b with
  | true => rw [if_pos rfl]; exact h1 rfl
  | false => rw [if_neg Bool.false_ne_true]; exact h2 rfl
theorem w_dec {p P R : Prop} [Decidable p] (h1 : p → P) (h2 : ¬ p → R) : if decide p = true then P else R :=
  w_ite (fun e => h1 (of_decide_eq_true e)) fun e => h2 (of_decide_eq_false e)
theorem w_ndec {p P R : Prop} [Decidable p] (h1 : ¬ p → P) (h2 : p → R) : if (!decide p) = true then P else R :=
  w_ite (fun e => h1 (by simpa using e)) fun e => h2 (by simpa using e)
theorem w_t {P R : Prop} (h : P) : if true = true then P else R := by rw [if_pos rfl]; exact h
theorem w_f {P R : Prop} (h : R) : if false = true then P else R := by rw [if_neg Bool.false_ne_true]; exact h
theorem w_yes {P R : Prop} (e : b = true) (h : P) : if b = true then P else R := by rw [if_pos e]; exact h
theorem w_no {P R : Prop} (e : b = false) (h : R) : if b = true then P else R := by rw [e, if_neg Bool.false_ne_true]; exact h
/-! loops -/
def LoopOk (J : It) (g : TG) (tb : TS) (D : Ends) (σ : L2.St) (H1 : Hp) : Prop := ∃ W : Nat → Nat → L2.St → Hp → Prop, (∃ m, W 0 m σ H1) ∧ ∀ i m σ H, W i m σ H →
  (J.stop i H ∧ D.nx σ H) ∨ (J.go i H ∧ ∃ N : L2.St → Hp → Prop, (∀ σ' H', N σ' H' → ∃ m', m' < m ∧ W (i + 1) m' σ' H') ∧ ∀ x H', J.yld i H x H' → g x σ H' fun σ2 H2 => tb { D with nx := N, ct := N, bk := D.nx } σ2 H2)
theorem g_for {wi : TI} (q : wi σ H fun J H1 => LoopOk J g t D σ H1) : tFor wi g t D σ H := q
theorem l_it {J : It} {n : Nat} {G : Hp → Prop} {Y : Nat → Hp → V → Hp → Prop} (w : Walk J n G Y) (Pv : Nat → L2.St → Hp → Prop) (h0 : Pv 0 σ H) (hG : ∀ i σ H, i ≤ n → Pv i σ H → G H)
    (hs : ∀ i x σ H H', i < n → Pv i σ H → Y i H x H' → g x σ H' fun σ2 H2 => t { D with nx := Pv (i + 1), ct := Pv (i + 1), bk := D.nx } σ2 H2) (hd : ∀ σ H, Pv n σ H → D.nx σ H) : LoopOk J g t D σ H := for_it w Pv h0 hG hs hd
def LcOk (J : It) (g : TG) (tt : TT) (te : TE) (vs : List Nat) (Q : VK) (σ : L2.St) (H1 : Hp) : Prop := ∀ D, H1 D = none → ∃ W : Nat → Nat → Hp → Prop, (∃ m, W 0 m (upd H1 D (.lst []))) ∧ ∀ i m H, W i m H →
  (J.stop i H ∧ Q (.ref D) H) ∨ (J.go i H ∧ ∃ Nx : Hp → Prop, (∀ H', Nx H' → ∃ m', m' < m ∧ W (i + 1) m' H') ∧ ∀ x H', J.yld i H x H' → g x (wipe σ vs) H' fun σ2 H2 => wipe σ2 vs = wipe σ vs ∧ tt σ2 H2 fun b H3 =>
    if b = true then te σ2 H3 fun y H4 => ∃ acc, H4 D = some (.lst acc) ∧ acc.length < sizeLine ∧ Nx (upd H4 D (.lst (acc ++ [y]))) else Nx H3)
theorem g_lc {wi : TI} {vs : List Nat} (q : wi σ H fun J H1 => LcOk J g tt te vs Q σ H1) : tLc wi g tt te vs σ H Q := q
/-- a comprehension [f(x) for x in ..] without a test: the i-th element becomes F i; what stood stands -/
theorem lc_pure {J : It} {n : Nat} {G : Hp → Prop} {Y : Nat → Hp → V → Hp → Prop} {vs : List Nat} (w : Walk J n G Y) (F : Nat → V) (hn : n < sizeLine)
    (hG : ∀ H', Ex H H' → G H')
    (hs : ∀ i x H1 H2, i < n → Ex H H1 → Y i H1 x H2 → ∀ R : VK, (∀ H3, (∀ a o, H2 a = some o → H3 a = some o) → R (F i) H3) →
      g x (wipe σ vs) H2 fun σ2 H3 => wipe σ2 vs = wipe σ vs ∧ te σ2 H3 R)
    (hy : ∀ i H1 x H2, Y i H1 x H2 → Ex H1 H2)
    (hq : ∀ p H', H p = none → Ex H H' → H' p = some (.lst ((List.range n).map F)) → Q (.ref p) H') : LcOk J g tYes te vs Q σ H := by
  intro D hD
  refine lc_it w (fun i H' => Ex H H' ∧ H' D = some (.lst ((List.range i).map F))) ⟨Ex.new hD, upd_same⟩ (fun i H' _ h => hG H' h.1) (fun i x H1 H2 hi hP hY => ?_) (fun H' h => hq D H' hD h.1 h.2)
  obtain ⟨hE, hL⟩ := hP
  have e2 := hy i H1 x H2 hY
  have key : ∀ H3, (∀ a o, H2 a = some o → H3 a = some o) → ∃ acc, H3 D = some (.lst acc) ∧ acc.length < sizeLine ∧ (Ex H (upd H3 D (.lst (acc ++ [F i]))) ∧ upd H3 D (.lst (acc ++ [F i])) D = some (.lst ((List.range (i + 1)).map F))) := fun H3 e3 => by
    refine ⟨_, e3 _ _ (e2 _ _ hL), by rw [List.length_map, List.length_range]; omega, Evl.Ex.mut ((hE.trans e2).trans e3) hD, ?_⟩
    rw [upd_same, List.range_succ, List.map_append]
    rfl
  have main := hs i x H1 H2 hi hE hY (fun y H4 => ∃ acc, H4 D = some (.lst acc) ∧ acc.length < sizeLine ∧ (Ex H (upd H4 D (.lst (acc ++ [y]))) ∧ upd H4 D (.lst (acc ++ [y])) D = some (.lst ((List.range (i + 1)).map F)))) key
  exact main
/-! what is walked -/
def rIL (K : PySem.W.Frag) (R : It → Hp → Prop) : VK := fun x H1 => ∃ a, x = .ref a ∧ (∃ xs, SqL K H1 a xs) ∧ R (Itl K a) H1
def rIT (K : PySem.W.Frag) (R : It → Hp → Prop) : VK := fun x H1 => ∃ a, x = .ref a ∧ (∃ xs, SqT K H1 a xs) ∧ R (Itt K a) H1
theorem g_iList {tl : TE} {R : It → Hp → Prop} (q : tl σ H (rIL K R)) : iList K tl σ H R := q
theorem g_iTup {tl : TE} {R : It → Hp → Prop} (q : tl σ H (rIT K R)) : iTup K tl σ H R := q
theorem g_atL {R : It → Hp → Prop} {a : Addr} {xs : List V} (h : SqL K H a xs) (q : R (Itl K a) H) : rIL K R (.ref a) H := ⟨a, rfl, ⟨xs, h⟩, q⟩
theorem g_atT {R : It → Hp → Prop} {a : Addr} {xs : List V} (h : SqT K H a xs) (q : R (Itt K a) H) : rIT K R (.ref a) H := ⟨a, rfl, ⟨xs, h⟩, q⟩
theorem g_iStr {R : It → Hp → Prop} (q : te σ H fun v H1 => ∃ x, v = .str x ∧ R (Its x) H1) : iStr te σ H R := q
theorem g_atS {P : Str → Prop} {z : Str} (q : P z) : ∃ x, V.str z = .str x ∧ P x := ⟨z, rfl, q⟩
theorem g_iRng1 {ta : TA} {R : It → Hp → Prop} (q : ta σ H fun vs H1 => ∃ j : Int, vs = [.int j] ∧ -(2 ^ 62) ≤ j ∧ j < 2 ^ 62 ∧ R (Itr 0 j.toNat) H1) : iRng1 ta σ H R := q
theorem g_rng {P : Int → Prop} (h : -(2 ^ 62) ≤ i ∧ i < 2 ^ 62) (q : P i) : ∃ j : Int, ([V.int i] : List V) = [.int j] ∧ -(2 ^ 62) ≤ j ∧ j < 2 ^ 62 ∧ P j := ⟨i, rfl, h.1, h.2, q⟩
/-! list items -/
theorem g_ixL {p : Addr} {xs : List V} (h : SqL K H p xs) (ha : atI xs i = some v) (q : Q v H) : rIxL K (.ref p) (.int i) H Q := ⟨p, xs, i, v, rfl, rfl, h, ha, q⟩
theorem g_ixT {p : Addr} {xs : List V} (h : SqT K H p xs) (ha : atI xs i = some v) (q : Q v H) : rIxT K (.ref p) (.int i) H Q := ⟨p, xs, i, v, rfl, rfl, h, ha, q⟩
theorem g_ixS {z : Str} {c : Nat} (h : z.length ≤ sizeLine) (ha : atI z.cps.toList i = some c) (q : Q (.str ⟨#[c]⟩) H) : rIxS (.str z) (.int i) H Q := ⟨z, i, c, rfl, rfl, h, ha, q⟩
theorem g_app {l : Addr} {xs : List V} (hl : H l = some (.lst xs)) (hz : xs.length < sizeLine) (q : Q .non (upd H l (.lst (xs ++ [v])))) : rAppend (.ref l) [v] H Q := ⟨l, xs, v, rfl, rfl, hl, hz, q⟩
theorem g_tyL {P : Prop} {l : Addr} {xs : List V} (hl : SqL K H l xs) (q : P) : tyV K "list" (.ref l) H ∧ P := ⟨.inl ⟨rfl, xs, hl⟩, q⟩
theorem g_tyS {P : Prop} {z : Str} (q : P) : tyV K "str" (.str z) H ∧ P := ⟨rfl, q⟩
theorem g_slL {p : Addr} {xs : List V} {lo hi : Option Int} (h : SqL K H p xs) (q : ∀ p, H p = none → Q (.ref p) (upd H p (.lst (cutV xs lo hi)))) : rSlL K (.ref p) lo hi H Q := ⟨p, xs, rfl, h, q⟩
theorem g_slS {z : Str} {lo hi : Option Int} (h : z.length ≤ sizeLine) (q : Q (.str (cutS z lo hi)) H) : rSlS (.str z) lo hi H Q := ⟨z, rfl, h, q⟩
end
/-! ### B. further rules -/
section
variable {X : Cx}
theorem pe_globE {x : Str} {pos : Pos} {v : V} (h : ∃ u, X.mg x = some u ∧ RelV v u) (hg : Gl X x) (hd : (x == ("__debug__" : Str)) = false := by decide) : PE X (.Name x pos) (tC v) := by
  obtain ⟨u, hm, r⟩ := h
  exact pe_glob hg hm r hd
def rIntI : List V → Hp → VK → Prop := fun xs H Q => ∃ i, xs = [.int i] ∧ Q (.int i) H
def rIntB : List V → Hp → VK → Prop := fun xs H Q => ∃ k, xs = [.bl k] ∧ Q (.int (if k then 1 else 0)) H
theorem call_intI : CallR X (.type "int") rIntI := fun pins s σ H xs us Q I r h => call_int1 pins s σ H xs us Q I r (.inl h)
theorem mt_rjustF : MtR X "str.rjust" (fun x xs H Q => ∃ (a b : Str) (i : Int), x = .str a ∧ xs = [.int i, .str b] ∧ PadOk i = true ∧ b.length = 1 ∧ Q (.str (Txt.rjustF a i (b.cps.getD 0 0))) H) := by
  intro pins s σ H x xs v us Q I rx rs h
  obtain ⟨a, b, i, rfl, rfl, hp, hb, q⟩ := h
  obtain ⟨t, rfl⟩ := rx
  cases rs with
  | cons r1 rs =>
    cases rs with
    | cons r2 rs =>
      cases rs
      obtain ⟨t1, rfl⟩ := r1
      obtain ⟨t2, rfl⟩ := r2
      exact rjust_fill hp hb fun t' k => ⟨.str _, H, I.tok _, ⟨t', rfl⟩, q⟩
def rAbs : List V → Hp → VK → Prop := fun xs H Q => ∃ i, xs = [.int i] ∧ Q (.int (if i < 0 then -i else i)) H
theorem call_absN : CallR X (.builtin "abs") rAbs := call_abs
def rMax2 : List V → Hp → VK → Prop := fun xs H Q => ∃ i j, xs = [.int i, .int j] ∧ Q (.int (if j > i then j else i)) H
theorem call_max2N (hc : X.calm = true) : CallR X (.builtin "max") rMax2 := call_max2 hc
def rMin2 : List V → Hp → VK → Prop := fun xs H Q => ∃ i j, xs = [.int i, .int j] ∧ Q (.int (if j < i then j else i)) H
def rLen (K : PySem.W.Frag) : List V → Hp → VK → Prop := fun xs H Q => ∃ p ys, xs = [.ref p] ∧ (SqL K H p ys ∨ SqT K H p ys) ∧ Q (.int ys.length) H
theorem call_lenN : CallR X (.builtin "len") (rLen X.K) := call_len_seq
def rLenS : List V → Hp → VK → Prop := fun xs H Q => ∃ z, xs = [.str z] ∧ z.length ≤ sizeLine ∧ Q (.int z.length) H
theorem call_lenSN : CallR X (.builtin "len") rLenS := call_len_str
def rOrd : List V → Hp → VK → Prop := fun xs H Q => ∃ x, xs = [.str x] ∧ x.length = 1 ∧ Q (.int (x.cps.getD 0 0 : Nat)) H
theorem call_ordN : CallR X (.builtin "ord") rOrd := call_ord
def rAddS : R2 := fun x y H Q => ∃ i j, x = .str i ∧ y = .str j ∧ i.length + j.length ≤ sizeLine ∧ Q (.str (i ++ j)) H
theorem op_addSN : OpR X (binaryOp .Add) rAddS := op_add_str
def rCmpS (f : List Nat → List Nat → Bool) : R2 := fun x y H Q => ∃ i j, x = .str i ∧ y = .str j ∧ Q (.bl (f i.cps.toList j.cps.toList)) H
theorem op_le_strN : OpR X (compareOp .LtE) (rCmpS fun a b => !decide (b < a)) := op_le_str
def rInS : R2 := fun x y H Q => ∃ (c : Nat) (z : Str), x = .str ⟨#[c]⟩ ∧ y = .str z ∧ Q (.bl (decide (c ∈ z.cps.toList))) H
def rNinS : R2 := fun x y H Q => ∃ (c : Nat) (z : Str), x = .str ⟨#[c]⟩ ∧ y = .str z ∧ Q (.bl (!decide (c ∈ z.cps.toList))) H
theorem op_inSN : OpR X (compareOp .In) rInS := op_in_sign
def rIsN : R2 := fun x y H Q => y = .non ∧ Q (.bl (decide (x = .non))) H
def rNotN : R2 := fun x y H Q => y = .non ∧ Q (.bl (!decide (x = .non))) H
theorem op_isNN : OpR X (compareOp .Is) rIsN := op_isN
def rStrI : List V → Hp → VK → Prop := fun xs H Q => ∃ i : Int, xs = [.int i] ∧ i.natAbs.log2 < 1920 ∧ Q (.str (toString i)) H
theorem call_strIN : CallR X (.type "str") rStrI := call_str_int
def rJoin (K : PySem.W.Frag) : V → List V → Hp → VK → Prop := fun x xs H Q => ∃ a p, ∃ ys : List Str, x = .str a ∧ xs = [.ref p] ∧ (SqL K H p (ys.map V.str) ∨ SqT K H p (ys.map V.str)) ∧ (ys.map (·.length)).sum + ys.length * a.length ≤ 16777216 ∧ Q (.str (Txt.join a ys)) H
theorem mt_joinN : MtR X "str.join" (rJoin X.K) := mt_join
def rRjust : V → List V → Hp → VK → Prop := fun x xs H Q => ∃ (a b : Str) (i : Int), x = .str a ∧ xs = [.int i, .str b] ∧ PadOk i = true ∧ b.length = 1 ∧ Q (.str (Txt.rjustF a i (b.cps.getD 0 0))) H
theorem mt_rjustN : MtR X "str.rjust" rRjust := mt_rjustF
def rSplitMax : V → List V → Hp → VK → Prop := fun x xs H Q => ∃ (a b : Str) (k : Int), x = .str a ∧ xs = [.str b, .int k] ∧ (b.length == 0) = false ∧ -(2 ^ 63) ≤ k ∧ k < 2 ^ 63 ∧ a.length + 2 ≤ sizeLine ∧ rNewStrs (Txt.splitMax a b k) H Q
theorem mt_splitMaxN : MtR X "str.split" rSplitMax := mt_splitMax
def rSplit : V → List V → Hp → VK → Prop := fun x xs H Q => ∃ a b, x = .str a ∧ xs = [.str b] ∧ (b.length == 0) = false ∧ a.length + 2 ≤ sizeLine ∧ rNewStrs (Txt.split a b) H Q
theorem mt_splitN : MtR X "str.split" rSplit := mt_split
def rIntS : List V → Hp → VK → Prop := fun xs H Q => ∃ a n, xs = [.str a] ∧ PySem.intText? a = some n ∧ a.length ≤ 640 ∧ Q (.int n) H
theorem call_intSN : CallR X (.type "int") rIntS := call_int_str
/-! enumerate(text, k) -/
def Itse (x : Str) (k0 : Int) : It :=
  ⟨fun i _ => i < x.cps.size, fun i H v H' => ∃ T c, v = .ref T ∧ H T = none ∧ H' = upd H T (.tup [.int (k0 + (i : Nat)), .str ⟨#[c]⟩]) ∧ x.cps[i]? = some c, fun i _ => x.cps.size ≤ i⟩
theorem turn_enumStr {P : Program} {w : World} {K : PySem.W.Frag} {elts : List Expr} {kk : Nat} {tpos : Pos} (x : Str) (k0 : Int) (tx : Tok) (e it : Addr) :
    Turn P w K (.Tuple elts kk tpos) (Itse x k0) [e, it] e (fun i h => (∃ old, IsEnum h e it (k0 + ((i : Nat) : Int)) old) ∧ h.IsStrIter it (strIterType x) x tx i ∧ e ≠ it ∧ i ≤ x.cps.size) where
  mem := by simp
  obj := fun i h st b hb => by
    obtain ⟨⟨old, he⟩, ⟨o, ho, hc, hd⟩, _, _⟩ := st
    have e' : b = e ∨ b = it := by simpa using hb
    rcases e' with z | z
    · rw [z]; exact ⟨_, he, fun v q => nomatch q⟩
    · rw [z]; exact ⟨o, ho, fun v q => by rw [hd] at q; cases q⟩
  keep := fun i h h' st k => let ⟨⟨old, he⟩, ⟨o, ho, r⟩, hne⟩ := st; ⟨⟨old, k e (by simp) _ he⟩, ⟨o, k it (by simp) o ho, r⟩, hne⟩
  item := by
    intro X hP hw hK hc i pins s σ H E I hf st hg
    subst hP hw hK
    obtain ⟨⟨old, he⟩, hit, hne, hle⟩ := st
    have hel : e < s.heap.objs.size := Heap.lt_size he
    have hil : it < s.heap.objs.size := by obtain ⟨_, q, _⟩ := hit; exact Heap.lt_size q
    have hh : X.A.in1.handled = none := I.ok.hd hc
    refine wpAny_pyNext_enum_itemC (Draws.text hh it x tx) he hit hg hne (by simpa using hne) fun y h' tk hP ho hit' hT hsz hk => ?_
    obtain ⟨c, u, hcx, rfl⟩ := hP
    refine ⟨_, rfl, wpAny_letOwnedTupleGo_enum (s := { s with heap := h', toks := tk + 1 }) ho fun h'' he' sb => ?_⟩
    have hT2 : h''.get? s.heap.objs.size = some { cls := .type "tuple", data := .seq #[.int (k0 + ((i : Nat) : Int)) tk, .str ⟨#[c]⟩ u] } := (sb.2 _ (Nat.ne_of_gt hel)).trans hT
    have new : ObjOk X.prog X.w (upd H s.heap.objs.size (.tup [.int (k0 + (i : Nat)), .str ⟨#[c]⟩])) h'' s.heap.objs.size (.tup [.int (k0 + (i : Nat)), .str ⟨#[c]⟩]) :=
      ⟨by show 2 ≤ sizeLine; decide, [.int (k0 + ((i : Nat) : Int)) tk, .str ⟨#[c]⟩ u], .cons ⟨_, rfl⟩ (.cons ⟨_, rfl⟩ .nil), ⟨_, hT2, rfl, _, rfl⟩⟩
    have I1 : Inv X pins σ (upd H s.heap.objs.size (.tup [.int (k0 + (i : Nat)), .str ⟨#[c]⟩])) { s with heap := h'', toks := tk + 1 } :=
      I.turnedNew (ch := [e, it]) (fun b ob hb q => (sb.2 b (fun z => hb (by simp [z]))).trans (hk b ob (fun z => hb (by simp [z])) (fun z => hb (by simp [z])) q)) hf (Nat.le_refl _) new
    refine ⟨.ref s.heap.objs.size, _, I1, rfl, ⟨_, c, rfl, I.hok.fresh (Nat.le_refl _), rfl, hcx⟩, ⟨⟨.str ⟨#[c]⟩ u, ?_⟩, ?_, hne, hg⟩, fun b hb => ?_⟩
    · have e1 : k0 + ((i + 1 : Nat) : Int) = k0 + (i : Int) + 1 := by omega
      rw [e1]; exact he'
    · obtain ⟨o, ho', r⟩ := hit'
      exact ⟨o, (sb.2 it (Ne.symm hne)).trans ho', r⟩
    · have hb' : b < s.heap.objs.size := by
        have e' : b = e ∨ b = it := by simpa using hb
        rcases e' with z | z
        · rw [z]; exact hel
        · rw [z]; exact hil
      rw [upd_ne (Nat.ne_of_lt hb')]
      exact (hf b hb).1
  done := by
    intro X hP hw hK hc i pins s σ H E I hf st hg
    subst hP hw hK
    obtain ⟨⟨old, he⟩, hit, hne, hle⟩ := st
    obtain ⟨f0, f1, f2, f3, f4, f5⟩ := hf it (by simp)
    have hh : X.A.in1.handled = none := I.ok.hd hc
    have hi : i = x.cps.size := Nat.le_antisymm hle hg
    subst hi
    exact wpAny_pyNext_enum_endD (Draws.text hh it x tx) he hit fun h' eb => ⟨rfl, I.turned (t' := s.toks) (fun b o hb q => eb b o hb q) f0 f1 f3 f4 f5⟩
  self := fun A i s Q E st h => let ⟨⟨_, he⟩, _⟩ := st; wpAny_pyIter_enum he h
def iEnumStr (ta : TA) : TI := fun σ H R => ta σ H fun vs H1 => ∃ (x : Str) (k : Int), vs = [.str x, .int k] ∧ (-(2 ^ 63) ≤ k ∧ k < 2 ^ 63) ∧ R (Itse x k) H1
theorem pi_enumStr {a b : Expr} {ta : TA} {p pos tpos : Pos} {elts : List Expr} {kk : Nat} (hg : Gl X "enumerate") (hm : X.mg "enumerate" = none) (ha : PA X [a, b] ta)
    (hs : starEach [a, b] X.env = (false, eval a X.env) :: starEach [b] X.env := by rfl) (hpl : (backTo pos (starEach [b] X.env)).any (·.1) = false := by rfl) :
    PI X (.Tuple elts kk tpos) (.Call (.Name "enumerate" p) [a, b] [] pos) (iEnumStr ta) := by
  refine ⟨fun pins s σ H R I h => ?_⟩
  refine Call_ (ld_blt I hg hm boot_enumerate (PyProof.Rows.callWith_type1 (thn (ha.run pos pins s σ H _ I h) fun us s1 ⟨vs, H1, I1, r1, q1⟩ => ?_) hs hpl))
  obtain ⟨x, k, ex, ⟨hk0, hk1⟩, q⟩ := q1
  subst ex
  cases r1 with
  | cons r rr =>
    cases rr with
    | cons r' rr =>
      cases rr
      obtain ⟨t, rfl⟩ := r
      obtain ⟨t', rfl⟩ := r'
      refine enum_begins (begins_text x t) trivial hk0 hk1 fun h' he hit hsz hk => wpAny_pyIter_enum he ?_
      have I2 : Inv X pins σ H1 { s1 with heap := h' } := I1.kept (t' := s1.toks) hk
      refine ⟨s1.heap.objs.size + 1, [s1.heap.objs.size + 1, s1.heap.objs.size], _, _, H1, rfl, I2, turn_enumStr x k t (s1.heap.objs.size + 1) s1.heap.objs.size, ⟨⟨.none, ?_⟩, ⟨_, hit, rfl, rfl⟩, Nat.succ_ne_self _, Nat.zero_le _⟩, fun b hb => ?_, q⟩
      · have e0 : k + ((0 : Nat) : Int) = k := by simp
        rw [e0]; exact he
      · have e' : b = s1.heap.objs.size + 1 ∨ b = s1.heap.objs.size := by simpa using hb
        have hle : s1.heap.objs.size ≤ b := by
          rcases e' with z | z
          · rw [z]; exact Nat.le_add_right _ _
          · rw [z]; exact Nat.le_refl _
        exact I1.fpOk hle (I1.hok.fresh hle)
theorem walk_enumStr {z : Str} {k : Int} : Walk (Itse z k) z.cps.size (fun _ => True) (fun i H v H' => ∃ T c, v = .ref T ∧ H T = none ∧ H' = upd H T (.tup [.int (k + (i : Nat)), .str ⟨#[c]⟩]) ∧ z.cps[i]? = some c) :=
  ⟨fun _ _ hi _ => hi, fun _ _ => Nat.le_refl _, fun _ _ _ _ _ _ y => y⟩
end
/-! ### C. the steps as one word -/
theorem fits_of {n : Nat} (h : n ≤ 1000000) : n ≤ sizeLine := Nat.le_trans h (by decide)
theorem fits_lt {n : Nat} (h : n ≤ 1000000) : n < sizeLine := Nat.lt_of_le_of_lt h (by decide)
theorem ex_sqL {K : PySem.W.Frag} {H H' : Hp} {a : Addr} {xs : List V} (e : Ex H H') (h : SqL K H a xs) : SqL K H' a xs := Evl.ex_l e h
theorem ex_sqT {K : PySem.W.Frag} {H H' : Hp} {a : Addr} {xs : List V} (e : Ex H H') (h : SqT K H a xs) : SqT K H' a xs := Evl.ex_t e h
theorem ex_at {H H' : Hp} {a : Addr} {o : HO} (e : Ex H H') (h : H a = some o) : H' a = some o := e a o h
theorem ex_free {H H' : Hp} {p : Addr} (e : Ex H H') (h : H' p = none) : H p = none := Evl.fresh_back e h
theorem g_intI {H : Hp} {Q : VK} {i : Int} (q : Q (.int i) H) : rIntI [.int i] H Q := ⟨i, rfl, q⟩
theorem g_intB {H : Hp} {Q : VK} {b : Bool} (q : Q (.int (if b then 1 else 0)) H) : rIntB [.bl b] H Q := ⟨b, rfl, q⟩
theorem g_abs {H : Hp} {Q : VK} {i : Int} (q : Q (.int (if i < 0 then -i else i)) H) : rAbs [.int i] H Q := ⟨i, rfl, q⟩
theorem g_max2 {H : Hp} {Q : VK} {i j : Int} (q : Q (.int (if j > i then j else i)) H) : rMax2 [.int i, .int j] H Q := ⟨i, j, rfl, q⟩
theorem g_min2 {H : Hp} {Q : VK} {i j : Int} (q : Q (.int (if j < i then j else i)) H) : rMin2 [.int i, .int j] H Q := ⟨i, j, rfl, q⟩
theorem g_lenL {K : PySem.W.Frag} {H : Hp} {Q : VK} {p : Addr} {xs : List V} (h : SqL K H p xs) (q : Q (.int xs.length) H) : rLen K [.ref p] H Q := ⟨p, xs, rfl, .inl h, q⟩
theorem g_lenT {K : PySem.W.Frag} {H : Hp} {Q : VK} {p : Addr} {xs : List V} (h : SqT K H p xs) (q : Q (.int xs.length) H) : rLen K [.ref p] H Q := ⟨p, xs, rfl, .inr h, q⟩
theorem g_lenS {H : Hp} {Q : VK} {z : Str} (h : z.length ≤ sizeLine) (q : Q (.int z.length) H) : rLenS [.str z] H Q := ⟨z, rfl, h, q⟩
theorem g_addS {H : Hp} {Q : VK} {z w : Str} (h : z.length + w.length ≤ sizeLine) (q : Q (.str (z ++ w)) H) : rAddS (.str z) (.str w) H Q := ⟨z, w, rfl, rfl, h, q⟩
theorem g_ordS {H : Hp} {Q : VK} {c : Nat} (q : Q (.int (c : Nat)) H) : rOrd [.str ⟨#[c]⟩] H Q := ⟨⟨#[c]⟩, rfl, rfl, q⟩
theorem g_cmpS {H : Hp} {Q : VK} {f : List Nat → List Nat → Bool} {z w : Str} (q : Q (.bl (f z.cps.toList w.cps.toList)) H) : rCmpS f (.str z) (.str w) H Q := ⟨z, w, rfl, rfl, q⟩
theorem g_inS {H : Hp} {Q : VK} {c : Nat} {w : Str} (q : Q (.bl (decide (c ∈ w.cps.toList))) H) : rInS (.str ⟨#[c]⟩) (.str w) H Q := ⟨c, w, rfl, rfl, q⟩
theorem g_ninS {H : Hp} {Q : VK} {c : Nat} {w : Str} (q : Q (.bl (!decide (c ∈ w.cps.toList))) H) : rNinS (.str ⟨#[c]⟩) (.str w) H Q := ⟨c, w, rfl, rfl, q⟩
theorem g_isN {H : Hp} {Q : VK} {v : V} (q : Q (.bl (decide (v = .non))) H) : rIsN v .non H Q := ⟨rfl, q⟩
theorem g_notN {H : Hp} {Q : VK} {v : V} (q : Q (.bl (!decide (v = .non))) H) : rNotN v .non H Q := ⟨rfl, q⟩
theorem g_strI {H : Hp} {Q : VK} {i : Int} (h : i.natAbs.log2 < 1920) (q : Q (.str (toString i)) H) : rStrI [.int i] H Q := ⟨i, rfl, h, q⟩
theorem g_join {K : PySem.W.Frag} {H : Hp} {Q : VK} {z : Str} {p : Addr} {ys : List Str} (h : SqL K H p (ys.map V.str)) (hz : (ys.map (·.length)).sum + ys.length * z.length ≤ 16777216) (q : Q (.str (Txt.join z ys)) H) : rJoin K (.str z) [.ref p] H Q := ⟨z, p, ys, rfl, rfl, .inl h, hz, q⟩
theorem g_rjust {H : Hp} {Q : VK} {z w : Str} {i : Int} (hp : PadOk i = true) (hb : w.length = 1) (q : Q (.str (Txt.rjustF z i (w.cps.getD 0 0))) H) : rRjust (.str z) [.int i, .str w] H Q := ⟨z, w, i, rfl, rfl, hp, hb, q⟩
theorem g_splitMax {H : Hp} {Q : VK} {z w : Str} {k : Int} (hb : (w.length == 0) = false) (hk : -(2 ^ 63) ≤ k ∧ k < 2 ^ 63) (hz : z.length + 2 ≤ sizeLine) (q : ∀ p, H p = none → Q (.ref p) (upd H p (.lst ((Txt.splitMax z w k).map V.str)))) : rSplitMax (.str z) [.str w, .int k] H Q := ⟨z, w, k, rfl, rfl, hb, hk.1, hk.2, hz, q⟩
theorem g_split {H : Hp} {Q : VK} {z w : Str} (hb : (w.length == 0) = false) (hz : z.length + 2 ≤ sizeLine) (q : ∀ p, H p = none → Q (.ref p) (upd H p (.lst ((Txt.split z w).map V.str)))) : rSplit (.str z) [.str w] H Q := ⟨z, w, rfl, rfl, hb, hz, q⟩
theorem g_intS {H : Hp} {Q : VK} {z : Str} {n : Int} (h : PySem.intText? z = some n) (hz : z.length ≤ 640) (q : Q (.int n) H) : rIntS [.str z] H Q := ⟨z, n, rfl, h, hz, q⟩
theorem g_all {K : PySem.W.Frag} {H : Hp} {Q : VK} {p : Addr} {bs : List Bool} (h : SqL K H p (bs.map V.bl)) (q : Q (.bl (bs.all id)) H) : rAll K [.ref p] H Q := ⟨p, bs, rfl, h, q⟩
theorem g_sum {K : PySem.W.Frag} {H : Hp} {Q : VK} {p : Addr} {ns : List Int} (h : SqL K H p (ns.map V.int)) (q : Q (.int ns.sum) H) : rSum K [.ref p] H Q := ⟨p, ns, rfl, h, q⟩
theorem l_while {tt : TT} {tb : TS} {D : Ends} {σ : L2.St} {H : Hp} (W : Nat → L2.St → Hp → Prop) (m : Nat) (w0 : W m σ H)
    (hs : ∀ m σ H, W m σ H → ∃ b, (∀ QB : Bool → Hp → Prop, QB b H → tt σ H QB) ∧ (b = true → tb { D with nx := fun σ' H' => ∃ m', m' < m ∧ W m' σ' H', ct := fun σ' H' => ∃ m', m' < m ∧ W m' σ' H', bk := D.nx } σ H) ∧ (b = false → D.nx σ H)) : tWhile tt tb D σ H := by
  refine ⟨W, ⟨m, w0⟩, fun m σ H hw => ?_⟩
  obtain ⟨b, ht, h1, h2⟩ := hs m σ H hw
  refine ht _ ?_
  cases b with
  | true => exact w_t ⟨_, fun _ _ n => n, h1 rfl⟩
  | false => exact w_f (h2 rfl)
theorem cutV_to (ys : List V) {k : Int} (h : 0 ≤ k) : cutV ys none (some k) = ys.take k.toNat := by
  obtain ⟨n, rfl⟩ := Int.eq_ofNat_of_zero_le h
  unfold cutV
  rw [HT.sIx_none, HT.sIx_nat, List.drop_zero, Nat.sub_zero, Int.toNat_natCast]
  by_cases hn : n ≤ ys.length
  · rw [Nat.min_eq_left hn]
  · rw [Nat.min_eq_right (by omega), List.take_of_length_le (Nat.le_refl _), List.take_of_length_le (by omega)]
theorem cutV_from (ys : List V) {k : Int} (h : 0 ≤ k) : cutV ys (some k) none = ys.drop k.toNat := by
  obtain ⟨n, rfl⟩ := Int.eq_ofNat_of_zero_le h
  unfold cutV
  rw [HT.sIx_none, HT.sIx_nat, Int.toNat_natCast]
  by_cases hn : n ≤ ys.length
  · rw [Nat.min_eq_left hn]
    exact List.take_of_length_le (by rw [List.length_drop]; omega)
  · rw [Nat.min_eq_right (by omega), List.drop_of_length_le (Nat.le_refl _), List.drop_of_length_le (by omega), List.take_nil]
/-- if p: x = e (no else), one continuation for both ways -/
theorem w_ifset {p : Prop} [Decidable p] {te : TE} {n : Nat} {D : Ends} {σ : L2.St} {H : Hp} (W : V → Prop) (h1 : p → ∀ R : VK, (∀ x H', W x → Ex H H' → R x H') → te σ H R) (h0 : ¬ p → ∃ old, σ[n]? = some (some old) ∧ W old)
    (hk : ∀ x H', W x → Ex H H' → D.nx (σ.set n (some x)) H') : if decide p = true then tAsg te (gName n) D σ H else tNext D σ H := by
  refine w_dec (fun h => ?_) (fun h => ?_)
  · exact h1 h _ hk
  · obtain ⟨old, e, w⟩ := h0 h
    have e2 : σ.set n (some old) = σ := by
      apply List.ext_getElem?
      intro k
      by_cases hk : n = k
      · subst hk
        have hl : n < σ.length := (List.getElem?_eq_some_iff.mp e).1
        rw [List.getElem?_set_self hl, e]
      · rw [List.getElem?_set_ne hk]
    have q := hk old H w (Evl.Ex.refl H)
    rw [e2] at q
    exact q
theorem g_new {P : Addr → Prop} {n : Nat} {H : Hp} (hz : n ≤ sizeLine) (q : ∀ p, H p = none → P p) : n ≤ sizeLine ∧ ∀ p, H p = none → P p := ⟨hz, q⟩
/-! rules whose reading names the written part: told for a K that is said -/
section
variable {X : Cx} {K : PySem.W.Frag}
theorem ix_listK (h : X.K = K) : IxR X (rIxL K) := by subst h; exact ix_list
theorem ix_tupK (h : X.K = K) : IxR X (rIxT K) := by subst h; exact ix_tup
theorem sl_listK (h : X.K = K) : SlR X (rSlL K) := by subst h; exact sl_list
theorem call_lenK (h : X.K = K) : CallR X (.builtin "len") (rLen K) := by subst h; exact call_lenN
theorem op_eqDK (h : X.K = K) (hu : X.A.units + 64 < cLine) : OpR X (compareOp .Eq) (rEqD K) := by subst h; exact op_eqD hu
theorem cr_allK (h : X.K = K) (hc : X.calm = true) : CallR X (.builtin "all") (rAll K) := by subst h; exact cr_all hc
theorem cr_sumK (h : X.K = K) (hc : X.calm = true) : CallR X (.builtin "sum") (rSum K) := by subst h; exact cr_sum hc
theorem mt_joinK (h : X.K = K) : MtR X "str.join" (rJoin K) := by subst h; exact mt_joinN
theorem pe_bmK {o e : Expr} {es : List Expr} {to : TE} {t : TA} {name : Str} {apos cpos : Pos} {T id : String} {r : V → List V → Hp → VK → Prop} (h : X.K = K) (pa : PlainAttrs T) (slot : Slot T name id) (hty : typeOf (.builtin id) = pure (.type "method_descriptor")) (hm : MtR X id r) (ho : PE X o to) (ha : PA X (e :: es) t)
    (hbase : attributeBase o name X.env (eval o X.env) = eval o X.env := by rfl)
    (hfew : ((backTo cpos (starEach (e :: es) X.env)).all (fun x => !x.1) && (backToKw cpos (keywordEach [] X.env)).all (fun x => x.1.isSome)
      && decide ((e :: es).length + ([] : List Keyword).length + (if ([] : List Keyword).isEmpty then 0 else 1) < 30)) = true := by rfl)
    (hline : (apos.endLine == cpos.line) = true := by rfl) (hs : starEach (e :: es) X.env = (false, eval e X.env) :: starEach es X.env := by rfl) (hplain : (backTo cpos (starEach es X.env)).any (·.1) = false := by rfl) :
    PE X (.Call (.Attribute o name apos) (e :: es) [] cpos) (tBM K T r to t) := by subst h; exact pe_bm pa slot hty hm ho ha hbase hfew hline hs hplain
theorem pg_tupK {es : List Expr} {k : Nat} {pos : Pos} {t : TGs} {n : Nat} (h : X.K = K) (hc : X.calm = true) (hs : PGs X es t) (hn : (assignEach es X.env).length = n := by rfl) (hst : (assignEach es X.env).findIdx? (·.1) = none := by rfl) : PG X (.Tuple es k pos) (gTup K n t) := by
  subst h; exact pg_tup hc hs hn hst
theorem pi_listK {tg l : Expr} {tl : TE} (h : X.K = K) (hl : PE X l tl) : PI X tg l (iList K tl) := by subst h; exact pi_list hl
end
open TL
/-! ### D. comprehensions over a text, a range, a list -/
section
variable {K : PySem.W.Frag} {σ : L2.St} {H : Hp} {Q : VK} {te : TE} {g : TG} {vs : List Nat}
theorem map_getD {α : Type} (l : List α) (d : α) (f : α → V) : (List.range l.length).map (fun i => f (l.getD i d)) = l.map f := by
  apply List.ext_getElem?
  intro k
  by_cases h : k < l.length
  · simp [h, List.getD]
  · simp [h]
theorem lc_str {z : Str} (f : Nat → V) (hn : z.length ≤ 1000000)
    (hs : ∀ c ∈ tl z, ∀ H1, Ex H H1 → ∀ R : VK, (∀ H3, Ex H1 H3 → R (f c) H3) → g (.str ⟨#[c]⟩) (wipe σ vs) H1 fun σ2 H3 => wipe σ2 vs = wipe σ vs ∧ te σ2 H3 R)
    (hq : ∀ p H', H p = none → Ex H H' → H' p = some (.lst ((tl z).map f)) → Q (.ref p) H') : LcOk (Its z) g tYes te vs Q σ H := by
  have hl : z.cps.size = (tl z).length := by simp [tl]
  refine lc_pure walk_str (fun i => f ((tl z).getD i 0)) (fits_lt (by rw [hl, ← len_tl]; exact hn)) (fun _ _ => trivial) (fun i x H1 H2 hi hE hY R hR => ?_) (fun i H1 x H2 hY => ?_) (fun p H' hp hE hL => ?_)
  · obtain ⟨rfl, c, hc, rfl⟩ := hY
    have e : (tl z)[i]? = some c := by simpa [tl] using hc
    have e2 : (tl z).getD i 0 = c := by rw [List.getD_eq_getElem?_getD, e]; rfl
    exact hs c (List.mem_of_getElem? e) H2 hE R fun H3 h3 => by
      have q := hR H3 h3
      simp only [e2] at q
      exact q
  · obtain ⟨rfl, _⟩ := hY
    exact Evl.Ex.refl _
  · refine hq p H' hp hE ?_
    rw [hL, hl, map_getD]
theorem lc_rng {n : Nat} (f : Nat → V) (hn : n ≤ 1000000)
    (hs : ∀ i, i < n → ∀ H1, Ex H H1 → ∀ R : VK, (∀ H3, Ex H1 H3 → R (f i) H3) → g (.int ((i : Nat) : Int)) (wipe σ vs) H1 fun σ2 H3 => wipe σ2 vs = wipe σ vs ∧ te σ2 H3 R)
    (hq : ∀ p H', H p = none → Ex H H' → H' p = some (.lst ((List.range n).map f)) → Q (.ref p) H') : LcOk (Itr 0 n) g tYes te vs Q σ H := by
  refine lc_pure walk_range f (fits_lt hn) (fun _ _ => trivial) (fun i x H1 H2 hi hE hY R hR => ?_) (fun i H1 x H2 hY => ?_) hq
  · obtain ⟨rfl, rfl⟩ := hY
    have e : (0 : Int) + (i : Nat) = ((i : Nat) : Int) := Int.zero_add _
    show g (.int ((0 : Int) + (i : Nat))) _ _ _
    rw [e]
    exact hs i hi H2 hE R hR
  · obtain ⟨rfl, _⟩ := hY
    exact Evl.Ex.refl _
theorem lc_lst {α : Type} {a : Addr} {xs : List α} (enc : α → V) (f : α → V) (d : α) (hS : SqL K H a (xs.map enc)) (hn : xs.length ≤ 1000000)
    (hs : ∀ x ∈ xs, ∀ H1, Ex H H1 → ∀ R : VK, (∀ H3, Ex H1 H3 → R (f x) H3) → g (enc x) (wipe σ vs) H1 fun σ2 H3 => wipe σ2 vs = wipe σ vs ∧ te σ2 H3 R)
    (hq : ∀ p H', H p = none → Ex H H' → H' p = some (.lst (xs.map f)) → Q (.ref p) H') : LcOk (Itl K a) g tYes te vs Q σ H := by
  refine lc_pure (walk_list (xs := xs.map enc)) (fun i => f (xs.getD i d)) (fits_lt (by rw [List.length_map]; exact hn)) (fun H' e => ex_sqL e hS) (fun i x H1 H2 hi hE hY R hR => ?_) (fun i H1 x H2 hY => ?_) (fun p H' hp hE hL => ?_)
  · obtain ⟨rfl, hx⟩ := hY
    rw [List.getElem?_map] at hx
    cases e : xs[i]? with
    | none => rw [e] at hx; cases hx
    | some y =>
      rw [e] at hx
      have ex : enc y = x := Option.some.inj hx
      subst ex
      have e2 : xs.getD i d = y := by rw [List.getD_eq_getElem?_getD, e]; rfl
      exact hs y (List.mem_of_getElem? e) H2 hE R fun H3 h3 => by
        have q := hR H3 h3
        simp only [e2] at q
        exact q
  · obtain ⟨rfl, _⟩ := hY
    exact Evl.Ex.refl _
  · refine hq p H' hp hE ?_
    rw [hL, List.length_map, map_getD]
end
/-! ### E. texts as lists of codes -/
def stxt (l : List Nat) : Str := ⟨l.toArray⟩
theorem tl_stxt (l : List Nat) : tl (stxt l) = l := rfl
theorem len_stxt (l : List Nat) : (stxt l).length = l.length := by rw [len_tl, tl_stxt]
theorem stxt_app (l m : List Nat) : stxt l ++ stxt m = stxt (l ++ m) := ext_tl (by rw [tl_append]; rfl)
theorem tl_cutS (z : Str) (lo hi : Option Int) : tl (cutS z lo hi) = ((tl z).drop (HT.sIx z.length 0 lo)).take (HT.sIx z.length z.length hi - HT.sIx z.length 0 lo) := rfl
theorem tl_cut_to (z : Str) {k : Int} (h : 0 ≤ k) : tl (cutS z none (some k)) = (tl z).take k.toNat := by
  obtain ⟨n, rfl⟩ := Int.eq_ofNat_of_zero_le h
  rw [tl_cutS, HT.sIx_none, HT.sIx_nat, List.drop_zero, Nat.sub_zero, Int.toNat_natCast, len_tl]
  by_cases hn : n ≤ (tl z).length
  · rw [Nat.min_eq_left hn]
  · rw [Nat.min_eq_right (by omega), List.take_of_length_le (Nat.le_refl _), List.take_of_length_le (by omega)]
theorem tl_cut_toNeg (z : Str) {k : Nat} (h : 0 < k) : tl (cutS z none (some (-(k : Int)))) = (tl z).take ((tl z).length - k) := by
  rw [tl_cutS, HT.sIx_none, List.drop_zero, Nat.sub_zero]
  have e : HT.sIx z.length z.length (some (-(k : Int))) = (tl z).length - k := by
    show (if -(k : Int) < 0 then (-(k : Int) + (z.length : Int)).toNat else _) = _
    rw [if_pos (by omega), len_tl]
    omega
  rw [e]
theorem tl_cut_fromNeg (z : Str) {k : Nat} (h : 0 < k) : tl (cutS z (some (-(k : Int))) none) = (tl z).drop ((tl z).length - k) := by
  rw [tl_cutS, HT.sIx_none]
  have e : HT.sIx z.length 0 (some (-(k : Int))) = (tl z).length - k := by
    show (if -(k : Int) < 0 then (-(k : Int) + (z.length : Int)).toNat else _) = _
    rw [if_pos (by omega), len_tl]
    omega
  rw [e]
  exact List.take_of_length_le (by rw [List.length_drop, len_tl]; omega)
theorem joinL_nil (ps : List (List Nat)) : joinL [] ps = ps.flatten := by
  induction ps with
  | nil => rfl
  | cons p r ih =>
    cases r with
    | nil => show p = [p].flatten; simp
    | cons q r =>
      show p ++ ([] ++ joinL [] (q :: r)) = _
      rw [ih]; simp
theorem tl_glue (ys : List Str) : tl (Txt.join "" ys) = (ys.map tl).flatten := by
  rw [join_eq, tl_join]
  exact joinL_nil _
/-! the first blank -/
def brk : List Nat → Option (List Nat × List Nat)
  | [] => none
  | c :: r => if c = 32 then some ([], r) else match brk r with
    | none => none
    | some (a, b) => some (c :: a, b)
theorem brk_none : ∀ {l : List Nat}, 32 ∉ l → brk l = none
  | [], _ => rfl
  | c :: r, h => by
    have h1 : c ≠ 32 := fun e => h (by rw [e]; exact List.mem_cons_self)
    have h2 : 32 ∉ r := fun e => h (List.mem_cons_of_mem _ e)
    unfold brk
    rw [if_neg h1, brk_none h2]
theorem brk_app : ∀ {a : List Nat} (r : List Nat), 32 ∉ a → brk (a ++ 32 :: r) = some (a, r)
  | [], r, _ => by show brk (32 :: r) = _; unfold brk; rw [if_pos rfl]
  | c :: a, r, h => by
    have h1 : c ≠ 32 := fun e => h (by rw [e]; exact List.mem_cons_self)
    have h2 : 32 ∉ a := fun e => h (List.mem_cons_of_mem _ e)
    show brk (c :: (a ++ 32 :: r)) = _
    unfold brk
    rw [if_neg h1, brk_app r h2]
/-- the parts between the first n blanks -/
def cutN : Nat → List Nat → List (List Nat)
  | 0, l => [l]
  | n + 1, l => match brk l with
    | none => [l]
    | some (a, r) => a :: cutN n r
open PySem.StrLaws PySem.Builtin.Str in
theorem run_lim (s sub : Str) (hi limit lo : Nat) (hw : 1 ≤ sub.length) : ∀ (m cur : Nat) (st : Array Nat × Nat), ChainG s sub hi lo st.fst.toList st.snd → st.fst.size ≤ limit → (st.fst.size < limit → ∀ k, st.snd ≤ k → k < cur → ¬ At s sub hi k) →
    ChainG s sub hi lo (forIn (List.range' cur m) st (occBody s sub hi limit)).run.fst.toList (forIn (List.range' cur m) st (occBody s sub hi limit)).run.snd ∧
    (forIn (List.range' cur m) st (occBody s sub hi limit)).run.fst.size ≤ limit ∧
    ((forIn (List.range' cur m) st (occBody s sub hi limit)).run.fst.size < limit → ∀ k, (forIn (List.range' cur m) st (occBody s sub hi limit)).run.snd ≤ k → k < cur + m → ¬ At s sub hi k)
  | 0, cur, st, h, hz, hn => ⟨h, hz, hn⟩
  | m + 1, cur, st, h, hz, hn => by
    rw [List.range'_succ, List.forIn_cons]
    unfold occBody
    have e : cur + (m + 1) = (cur + 1) + m := by omega
    rw [e]
    split
    · rename_i hc
      refine run_lim s sub hi limit lo hw m (cur + 1) _ ?_ ?_ ?_
      · show ChainG s sub hi lo (st.fst.push cur).toList (cur + sub.length)
        rw [Array.toList_push]
        exact chainG_snoc h hc.1.1.2 ⟨hc.1.2, hc.2⟩ (hn hc.1.1.1)
      · show (st.fst.push cur).size ≤ limit
        rw [Array.size_push]
        exact hc.1.1.1
      · intro _ k h1 h2
        have h1' : cur + sub.length ≤ k := h1
        omega
    · rename_i hc
      refine run_lim s sub hi limit lo hw m (cur + 1) _ h hz ?_
      intro hlt k h1 h2 hA
      by_cases hk : k < cur
      · exact hn hlt k h1 hk hA
      · have ek : k = cur := by omega
        subst ek
        exact hc ⟨⟨⟨hlt, h1⟩, hA.1⟩, hA.2⟩
open PySem.StrLaws PySem.Builtin.Str in
theorem occ_lim (x y : Str) (limit : Nat) (hw : 1 ≤ y.length) : ∃ f, ChainG x y x.length 0 (occurrences x y 0 x.length limit) f ∧ (occurrences x y 0 x.length limit).length ≤ limit ∧
    ((occurrences x y 0 x.length limit).length < limit → ∀ k, f ≤ k → ¬ At x y x.length k) := by
  rw [occ_eq]
  have key := run_lim x y x.length limit 0 hw (x.length + 1 - 0) 0 ((#[] : Array Nat), 0) rfl (Nat.zero_le _) (fun _ k _ h => by omega)
  refine ⟨_, key.1, by simpa using key.2.1, fun hl k hk hA => ?_⟩
  exact key.2.2 (by simpa using hl) k hk (by have := hA.1; omega) hA
open PySem.StrLaws PySem.Builtin.Str in
theorem parts_cutN {x : Str} : ∀ (cuts : List Nat) (a f n : Nat), a ≤ (tl x).length → ChainG x ⟨#[32]⟩ x.length a cuts f → cuts.length ≤ n → (cuts.length < n → ∀ k, f ≤ k → ¬ At x ⟨#[32]⟩ x.length k) →
    (partsFrom x 1 a cuts).map tl = cutN n ((tl x).drop a)
  | [], a, f, n, ha, h, hc, hn => by
    have e : f = a := h
    subst e
    show [tl (strSub x f x.length)] = _
    rw [tl_strSub_end]
    cases n with
    | zero => rfl
    | succ n =>
      have hb : brk ((tl x).drop f) = none := by
        refine brk_none ?_
        have q := part_free x 32 f x.length (Nat.le_refl _) (fun k h1 _ => hn (Nat.succ_pos _) k h1)
        have q2 : 32 ∉ tl (strSub x f x.length) := q
        rw [tl_strSub_end] at q2
        exact q2
      unfold cutN
      rw [hb]
  | c :: r, a, f, n, ha, h, hc, hn => by
    obtain ⟨h1, h2, h3, h4⟩ := h
    have hc1 : c + 1 ≤ x.length := h2.1
    have hx := len_tl x
    cases n with
    | zero => simp at hc
    | succ n =>
      have ih := parts_cutN r (c + 1) f n (by omega) h4 (by simpa using hc) (fun hl => hn (by simpa using hl))
      show tl (strSub x a c) :: (partsFrom x 1 (c + 1) r).map tl = _
      have hat : (tl x)[c]? = some 32 := (subAt_one x 32 c).mp h2
      have q : 32 ∉ tl (strSub x a c) := part_free x 32 a c (by omega) (fun k k1 k2 => h3 k k1 k2)
      have hclt : c < (tl x).length := by omega
      have e : (tl x).drop a = tl (strSub x a c) ++ 32 :: (tl x).drop (c + 1) := by
        rw [tl_strSub]
        have e1 : (tl x).drop c = 32 :: (tl x).drop (c + 1) := by
          rw [List.drop_eq_getElem_cons hclt]
          congr 1
          rw [List.getElem?_eq_getElem hclt] at hat
          exact Option.some.inj hat
        have e2 : ((tl x).drop a).drop (c - a) = (tl x).drop c := by
          rw [List.drop_drop]
          congr 1
          omega
        rw [← e1, ← e2, List.take_append_drop]
      rw [e]
      unfold cutN
      rw [brk_app _ q, ih]
open PySem.StrLaws PySem.Builtin.Str in
/-- x.split(" ", k) -/
theorem splitMax_cutN (x : Str) {k : Int} (hk : 0 < k) : (Txt.splitMax x " " k).map tl = cutN k.toNat (tl x) := by
  have ey : (" " : Str) = ⟨#[32]⟩ := by decide
  rw [ey]
  have elim : limitOf x k = k.toNat := by unfold limitOf; rw [if_neg (by omega)]
  obtain ⟨f, g, hz, hn⟩ := occ_lim x ⟨#[32]⟩ k.toNat (by decide)
  have key := parts_cutN _ 0 f k.toNat (Nat.zero_le _) g hz hn
  rw [List.drop_zero] at key
  have none_case : occurrences x ⟨#[32]⟩ 0 x.length k.toNat = [] → [x].map tl = cutN k.toNat (tl x) := fun ho => by
    rw [ho] at key
    rw [← key]
    show [tl x] = [tl (strSub x 0 x.length)]
    rw [sub_whole]
  have hkind : ¬ Builtin.Str.strKind x < Builtin.Str.strKind ⟨#[32]⟩ := kind_ok (by decide +kernel)
  unfold Txt.splitMax
  rw [elim]
  by_cases h1 : (decide (x.length < (⟨#[32]⟩ : Str).length) || decide (Builtin.Str.strKind x < Builtin.Str.strKind ⟨#[32]⟩)) = true
  · rw [if_pos h1]
    have hlt : x.length < 1 := by
      simp only [Bool.or_eq_true, decide_eq_true_eq] at h1
      rcases h1 with h | h
      · exact h
      · exact absurd h hkind
    refine none_case ?_
    cases ho : occurrences x ⟨#[32]⟩ 0 x.length k.toNat with
    | nil => rfl
    | cons c r =>
      rw [ho] at g
      have hc : c + 1 ≤ x.length := g.2.1.1
      omega
  · rw [if_neg h1]
    by_cases h2 : (occurrences x ⟨#[32]⟩ 0 x.length k.toNat).isEmpty = true
    · rw [if_pos h2]
      exact none_case (List.isEmpty_iff.mp h2)
    · rw [if_neg h2, partsBetween_eq]
      exact key
/-! ### E2. more steps: texts, all, f-strings, pairs -/
section
variable {K : PySem.W.Frag} {σ : L2.St} {H : Hp} {Q : VK} {te : TE} {g : TG}
theorem g_allF {α : Type} {p : Addr} {l : List α} {b : α → Bool} (h : SqL K H p (l.map fun c => V.bl (b c))) (q : Q (.bl (l.all b)) H) : rAll K [.ref p] H Q := by
  have e : (l.map fun c => V.bl (b c)) = (l.map b).map V.bl := by rw [List.map_map]; rfl
  rw [e] at h
  refine g_all h ?_
  have e2 : (l.map b).all id = l.all b := by rw [List.all_map]; rfl
  rw [e2]
  exact q
theorem g_gtup2 {T : Addr} {x y : V} {i j : Nat} {Qs : L2.St → Hp → Prop} (h : SqT K H T [x, y]) (q : Qs ((σ.set i (some x)).set j (some y)) H) : gTup K 2 (gCons (gName i) (gCons (gName j) gNil)) (.ref T) σ H Qs :=
  ⟨T, [x, y], rfl, h, rfl, x, [y], rfl, y, [], rfl, rfl, q⟩
def rFmt (Q : VK) : VK := fun x H1 => (∃ y : Str, x = .str y ∧ y.length ≤ sizeLine ∧ Q (.str y) H1) ∨ ∃ i : Int, x = .int i ∧ i.natAbs.log2 < 1920 ∧ Q (.str (toString i)) H1
theorem g_fmt (q : te σ H (rFmt Q)) : tFmt te σ H Q := q
theorem g_fmtI {i : Int} (h : i.natAbs.log2 < 1920) (q : Q (.str (toString i)) H) : rFmt Q (.int i) H := .inr ⟨i, rfl, h, q⟩
theorem g_fmtS {z : Str} (h : z.length ≤ sizeLine) (q : Q (.str z) H) : rFmt Q (.str z) H := .inl ⟨z, rfl, h, q⟩
theorem g_jsN {acc : Str} {R : Str → Hp → Prop} (q : R acc H) : tJs [] acc σ H R := q
theorem g_jsC {t : TE} {ts : List TE} {acc : Str} {R : Str → Hp → Prop} (q : t σ H fun x H1 => ∃ y : Str, x = .str y ∧ (acc ++ y).length ≤ sizeLine ∧ tJs ts (acc ++ y) σ H1 R) : tJs (t :: ts) acc σ H R := q
theorem g_jsS {acc s : Str} {P : Str → Prop} (h : (acc ++ s).length ≤ sizeLine) (q : P s) : ∃ y, V.str s = .str y ∧ (acc ++ y).length ≤ sizeLine ∧ P y := ⟨s, rfl, h, q⟩
theorem log_small {i : Int} (h : i.natAbs < 2 ^ 64) : i.natAbs.log2 < 1920 := by
  by_cases h0 : i.natAbs = 0
  · rw [h0]; decide
  · have h1 := (Nat.log2_lt h0).mpr h
    omega
theorem len_app (a b : Str) : (a ++ b).length = a.length + b.length := by rw [len_tl, tl_append, List.length_append, ← len_tl, ← len_tl]
theorem tl_num' {i : Int} (h : 0 ≤ i) : tl (toString i : Str) = numL i.toNat := by
  obtain ⟨n, rfl⟩ := Int.eq_ofNat_of_zero_le h
  rw [Int.toNat_natCast]
  exact tl_num n
theorem len_num {i : Int} (h : 0 ≤ i) {k : Nat} (hk : 0 < k) (h1 : i.toNat < 10 ^ k) : (toString i : Str).length ≤ k := by
  rw [len_tl, tl_num' h]
  exact numL_len hk h1
theorem lt_sing (c d : Nat) : decide (([c] : List Nat) < [d]) = decide (c < d) := by
  by_cases h : c < d
  · have h2 : ([c] : List Nat) < [d] := List.Lex.rel h
    simp [h, h2]
  · have h2 : ¬ ([c] : List Nat) < [d] := fun z => by
      cases z with
      | rel r => exact h r
      | cons r => cases r
    simp [h, h2]
end
section
variable {K : PySem.W.Frag} {H : Hp} {Q : VK} {i : Int} {z : Str} {p : Addr}
theorem g_isNi (q : Q (.bl false) H) : rIsN (.int i) .non H Q := ⟨rfl, q⟩
theorem g_isNn (q : Q (.bl true) H) : rIsN .non .non H Q := ⟨rfl, q⟩
theorem g_isNr (q : Q (.bl false) H) : rIsN (.ref p) .non H Q := ⟨rfl, q⟩
theorem g_isNs (q : Q (.bl false) H) : rIsN (.str z) .non H Q := ⟨rfl, q⟩
theorem g_ntNi (q : Q (.bl true) H) : rNotN (.int i) .non H Q := ⟨rfl, q⟩
theorem g_ntNn (q : Q (.bl false) H) : rNotN .non .non H Q := ⟨rfl, q⟩
theorem g_ntNr (q : Q (.bl true) H) : rNotN (.ref p) .non H Q := ⟨rfl, q⟩
theorem g_ntNs (q : Q (.bl true) H) : rNotN (.str z) .non H Q := ⟨rfl, q⟩
theorem at_ints {ns : List Int} {i : Int} (h0 : 0 ≤ i) (h1 : i < ns.length) : atI (ns.map V.int) i = some (.int (ns.getD i.toNat 0)) := by
  obtain ⟨n, rfl⟩ := Int.eq_ofNat_of_zero_le h0
  refine atI_nat ?_
  have hn : n < ns.length := by omega
  rw [List.getElem?_map, List.getElem?_eq_getElem hn, Int.toNat_natCast, List.getD_eq_getElem?_getD, List.getElem?_eq_getElem hn]
  rfl
end
theorem join_signs (l : List Nat) : Txt.join "" (l.map fun c => (⟨#[c]⟩ : Str)) = stxt l := by
  refine ext_tl ?_
  rw [tl_glue, tl_stxt, List.map_map]
  induction l with
  | nil => rfl
  | cons c r ih => rw [List.map_cons, List.flatten_cons, ih]; rfl
theorem len_sing (c : Nat) : (⟨#[c]⟩ : Str).length = 1 := rfl
theorem g_joinC {K : PySem.W.Frag} {H : Hp} {Q : VK} {p : Addr} {l : List Nat} (h : SqL K H p (l.map fun c => V.str ⟨#[c]⟩)) (hl : l.length ≤ 1000000) (q : Q (.str (stxt l)) H) : rJoin K (.str "") [.ref p] H Q := by
  have e : (l.map fun c => V.str ⟨#[c]⟩) = (l.map fun c => (⟨#[c]⟩ : Str)).map V.str := by rw [List.map_map]; rfl
  rw [e] at h
  refine g_join h ?_ (by rw [join_signs]; exact q)
  have e1 : ((l.map fun c => (⟨#[c]⟩ : Str)).map (·.length)).sum = l.length := by
    rw [List.map_map]
    clear h e hl q
    induction l with
    | nil => rfl
    | cons c r ih =>
      rw [List.map_cons, List.sum_cons, ih, List.length_cons]
      show 1 + r.length = r.length + 1
      omega
  rw [e1, show ("" : Str).length = 0 by decide +kernel]
  omega
theorem at_codes {l : List Nat} {i : Int} (h0 : 0 ≤ i) (h1 : i < l.length) : atI l i = some (l.getD i.toNat 0) := by
  obtain ⟨n, rfl⟩ := Int.eq_ofNat_of_zero_le h0
  refine atI_nat ?_
  have hn : n < l.length := by omega
  rw [List.getElem?_eq_getElem hn, Int.toNat_natCast, List.getD_eq_getElem?_getD, List.getElem?_eq_getElem hn]
  rfl
def repS (n : Nat) (z : Str) : Str := stxt (List.replicate n (tl z)).flatten
def rMulS : R2 := fun x y H Q => ∃ (z : Str) (n : Int), x = .str z ∧ y = .int n ∧ 0 ≤ n ∧ n ≤ 100000 ∧ z.length * n.toNat ≤ 1000000 ∧ Q (.str (repS n.toNat z)) H
theorem g_mulS {H : Hp} {Q : VK} {z : Str} {n : Int} (h : 0 ≤ n ∧ n ≤ 100000) (hz : z.length * n.toNat ≤ 1000000) (q : Q (.str (repS n.toNat z)) H) : rMulS (.str z) (.int n) H Q := ⟨z, n, rfl, rfl, h.1, h.2, hz, q⟩
theorem g_cat {H : Hp} {Q : VK} {l b : Addr} {xs zs : List V} (h : H l = some (.lst xs)) (h' : H b = some (.lst zs)) (hz : xs.length + zs.length ≤ sizeLine) (q : ∀ p, H p = none → Q (.ref p) (upd H p (.lst (xs ++ zs)))) : rCat (.ref l) (.ref b) H Q := ⟨l, b, xs, zs, rfl, rfl, h, h', hz, q⟩
theorem tl_cut_to_neg (z : Str) {k : Nat} (h : 0 < k) {i : Int} (hi : i = -(k : Int)) : tl (cutS z none (some i)) = (tl z).take ((tl z).length - k) := by subst hi; exact tl_cut_toNeg z h
theorem strOk_of {l : List Nat} (h : ∀ c ∈ l, c ≤ 1000000) : PyData.strOk (stxt l) = true := by
  unfold PyData.strOk
  simp [stxt]
  intro x hx
  have := h x hx
  omega
/-! ### F. records: the plain law -/
theorem numL_head {n : Nat} (h : 0 < n) : ∃ c r, numL n = c :: r ∧ c ≠ 48 := by
  induction n using Nat.strongRecOn with
  | _ n ih =>
    by_cases h1 : n < 10
    · exact ⟨48 + n, [], numL_lt h1, by omega⟩
    · obtain ⟨c, r, e, hc⟩ := ih (n / 10) (by omega) (by omega)
      exact ⟨c, r ++ [48 + n % 10], by rw [numL_step (by omega), e]; rfl, hc⟩
/-- the number that a part writes with at most k digits -/
def numOf (k : Int) (l : List Nat) : Option Int :=
  if 1 ≤ l.length ∧ (l.length : Int) ≤ k ∧ (∀ c ∈ l, 48 ≤ c ∧ c ≤ 57) ∧ ¬ (1 < l.length ∧ l.head? = some 48) then some ((NumText.digitsVal l : Nat) : Int) else none
theorem numOf_numL {n k : Nat} (hk : 0 < k) (h : n < 10 ^ k) : numOf k (numL n) = some (n : Int) := by
  have h1 : (numL n).length ≤ k := numL_len hk h
  have h2 : 1 ≤ (numL n).length := by
    cases e : numL n with
    | nil => exact absurd e (numL_ne n)
    | cons c r => simp
  have hz : ¬ (1 < (numL n).length ∧ (numL n).head? = some 48) := by
    rintro ⟨hl, hh⟩
    by_cases h0 : 0 < n
    · obtain ⟨c, r, e, hc⟩ := numL_head h0
      rw [e] at hh
      exact hc (Option.some.inj hh)
    · have e0 : n = 0 := by omega
      subst e0
      rw [numL_lt (by decide)] at hl
      simp at hl
  unfold numOf
  rw [if_pos ⟨h2, by omega, numL_digits n, hz⟩, numL_val]
def three (n : Nat) : List Nat := List.replicate (3 - (numL n).length) 48 ++ numL n
theorem three_len {n : Nat} (h : n < 1000) : (three n).length = 3 := by
  have h1 : (numL n).length ≤ 3 := numL_len (by decide) (by omega)
  unfold three
  rw [List.length_append, List.length_replicate]
  omega
theorem three_plain {n : Nat} : ∀ c ∈ three n, 32 ≤ c ∧ c ≤ 126 := fun c hc => by
  unfold three at hc
  rcases List.mem_append.mp hc with z | z
  · have := (List.mem_replicate.mp z).2
    omega
  · have := numL_digits n c z
    omega
def S1 : List Nat → Int
  | [] => 0
  | c :: r => (c : Int) + S1 r
def S2 : Int → List Nat → Int
  | _, [] => 0
  | k, c :: r => k * (c : Int) + S2 (k + 1) r
def chk (l : List Nat) : List Nat := three (S1 l % 997).toNat ++ three (S2 1 l % 997).toNat
theorem mod_lt (a : Int) : (a % 997).toNat < 1000 := by
  have h1 := Int.emod_nonneg a (show (997 : Int) ≠ 0 by decide)
  have h2 := Int.emod_lt_of_pos a (show (0 : Int) < 997 by decide)
  omega
theorem chk_len (l : List Nat) : (chk l).length = 6 := by
  unfold chk
  rw [List.length_append, three_len (mod_lt _), three_len (mod_lt _)]
/-! the mirror of records -/
def plainL (l : List Nat) : Bool := l.all fun c => decide (32 ≤ c) && decide (c ≤ 126)
def headL (n : Int) (body : List Nat) : List Nat := numL body.length ++ 32 :: (numL n.toNat ++ 32 :: body)
def lineL (n : Int) (body : List Nat) : List Nat := headL n body ++ 32 :: chk (headL n body)
def readRec (l : List Nat) : Option (Int × List Nat) :=
  if plainL l = true ∧ l.drop (l.length - 7) = 32 :: chk (l.take (l.length - 7)) then
    match cutN 2 (l.take (l.length - 7)) with
    | [a, b, c] => match numOf 3 a, numOf 6 b with
      | some s, some n => if s = (c.length : Int) ∧ 1 ≤ s ∧ s ≤ 700 then some (n, c) else none
      | _, _ => none
    | _ => none
  else none
theorem cut_head {n : Int} {body : List Nat} : cutN 2 (headL n body) = [numL body.length, numL n.toNat, body] := by
  unfold headL cutN
  rw [brk_app _ (numL_free (.inl (by decide)))]
  show _ :: cutN 1 _ = _
  unfold cutN
  rw [brk_app _ (numL_free (.inl (by decide)))]
  rfl
theorem headL_plain {n : Int} {body : List Nat} (h : ∀ c ∈ body, 32 ≤ c ∧ c ≤ 126) : ∀ c ∈ headL n body, 32 ≤ c ∧ c ≤ 126 := fun c hc => by
  unfold headL at hc
  rcases List.mem_append.mp hc with z | z
  · have := numL_digits _ c z; omega
  · rcases List.mem_cons.mp z with z | z
    · omega
    · rcases List.mem_append.mp z with z | z
      · have := numL_digits _ c z; omega
      · rcases List.mem_cons.mp z with z | z
        · omega
        · exact h c z
theorem chk_plain (l : List Nat) : ∀ c ∈ chk l, 32 ≤ c ∧ c ≤ 126 := fun c hc => by
  unfold chk at hc
  rcases List.mem_append.mp hc with z | z
  · exact three_plain c z
  · exact three_plain c z
theorem lineL_plain {n : Int} {body : List Nat} (h : ∀ c ∈ body, 32 ≤ c ∧ c ≤ 126) : ∀ c ∈ lineL n body, 32 ≤ c ∧ c ≤ 126 := fun c hc => by
  unfold lineL at hc
  rcases List.mem_append.mp hc with z | z
  · exact headL_plain h c z
  · rcases List.mem_cons.mp z with z | z
    · omega
    · exact chk_plain _ c z
theorem lineL_len (n : Int) (body : List Nat) : (lineL n body).length = (headL n body).length + 7 := by
  unfold lineL
  rw [List.length_append, List.length_cons, chk_len]
theorem headL_len {n : Int} {body : List Nat} (h0 : 0 ≤ n) (h1 : n < 1000000) (hb : body.length < 1000) : (headL n body).length ≤ 11 + body.length := by
  have e1 : (numL body.length).length ≤ 3 := numL_len (by decide) hb
  have e2 : (numL n.toNat).length ≤ 6 := numL_len (by decide) (by show n.toNat < 1000000; omega)
  unfold headL
  rw [List.length_append, List.length_cons, List.length_append, List.length_cons]
  omega
theorem read_line {n : Int} {body : List Nat} (h0 : 0 ≤ n) (h1 : n < 1000000) (hb : 1 ≤ body.length) (hb2 : body.length ≤ 700) (hp : ∀ c ∈ body, 32 ≤ c ∧ c ≤ 126) : readRec (lineL n body) = some (n, body) := by
  have e1 : (lineL n body).length - 7 = (headL n body).length := by rw [lineL_len]; omega
  have e2 : (lineL n body).take (headL n body).length = headL n body := by unfold lineL; simp
  have e3 : (lineL n body).drop (headL n body).length = 32 :: chk (headL n body) := by unfold lineL; simp
  have e4 : plainL (lineL n body) = true := by
    unfold plainL
    rw [List.all_eq_true]
    intro c hc
    have := lineL_plain hp c hc
    simp [this.1, this.2]
  have e5 : numOf 3 (numL body.length) = some ((body.length : Nat) : Int) := numOf_numL (k := 3) (by decide) (by show body.length < 1000; omega)
  have e6 : numOf 6 (numL n.toNat) = some ((n.toNat : Nat) : Int) := numOf_numL (k := 6) (by decide) (by show n.toNat < 1000000; omega)
  have e7 : ((n.toNat : Nat) : Int) = n := by omega
  unfold readRec
  rw [e1, e2, e3, if_pos ⟨e4, rfl⟩, cut_head]
  simp only [e5, e6, e7]
  rw [if_pos ⟨trivial, by omega, by omega⟩]
theorem cutN2_cases (l : List Nat) : (∃ a b c, cutN 2 l = [a, b, c]) ∨ (cutN 2 l).length < 3 := by
  unfold cutN
  cases brk l with
  | none => exact .inr (by simp)
  | some p =>
    obtain ⟨a, r⟩ := p
    show (∃ a' b c, a :: cutN 1 r = [a', b, c]) ∨ (a :: cutN 1 r).length < 3
    unfold cutN
    cases brk r with
    | none => exact .inr (by simp)
    | some p =>
      obtain ⟨b, c⟩ := p
      exact .inl ⟨a, b, c, rfl⟩
theorem map_tl3 {ps : List Str} {a b c : List Nat} (h : ps.map tl = [a, b, c]) : ps = [stxt a, stxt b, stxt c] := map_tl_inj h
/-! heads that are none -/
def recHead (hd : List Nat) : Option (Int × List Nat) :=
  match cutN 2 hd with
  | [a, b, c] => match numOf 3 a, numOf 6 b with
    | some s, some n => if s = (c.length : Int) ∧ 1 ≤ s ∧ s ≤ 700 then some (n, c) else none
    | _, _ => none
  | _ => none
theorem readRec_head (l : List Nat) : readRec l = if plainL l = true ∧ l.drop (l.length - 7) = 32 :: chk (l.take (l.length - 7)) then recHead (l.take (l.length - 7)) else none := rfl
theorem read_none {l : List Nat} (h : recHead (l.take (l.length - 7)) = none) : readRec l = none := by
  rw [readRec_head, h]
  split <;> rfl
theorem checked_none {hd : List Nat} (h : recHead hd = none) : readRec (hd ++ 32 :: chk hd) = none := by
  refine read_none ?_
  have e : (hd ++ 32 :: chk hd).length - 7 = hd.length := by rw [List.length_append, List.length_cons, chk_len]; omega
  rw [e, List.take_left]
  exact h
theorem numL_pos (n : Nat) : 1 ≤ (numL n).length := by
  cases e : numL n with
  | nil => exact absurd e (numL_ne n)
  | cons c r => simp
/-! ### more steps: dicts with texts as keys, isinstance, str of a part, slices of tuples -/
section
variable {X : Cx} {K : PySem.W.Frag} {H : Hp} {Q : VK} {σ : L2.St} {D : Ends}
def rIEn (K : PySem.W.Frag) (R : It → Hp → Prop) : List V → Hp → Prop := fun vs H1 => ∃ a xs, vs = [.ref a] ∧ SqL K H1 a xs ∧ R (Ite K a) H1
theorem g_iEnum {ta : TA} {R : It → Hp → Prop} (q : ta σ H (rIEn K R)) : iEnum K ta σ H R := q
theorem g_enL {R : It → Hp → Prop} {a : Addr} {xs : List V} (h : SqL K H a xs) (q : R (Ite K a) H) : rIEn K R [.ref a] H := ⟨a, xs, rfl, h, q⟩
def rListOf (K : PySem.W.Frag) : List V → Hp → VK → Prop := fun xs H Q => ∃ p ys, xs = [.ref p] ∧ (SqL K H p ys ∨ SqT K H p ys) ∧ ∀ l, H l = none → Q (.ref l) (upd H l (.lst ys))
theorem g_listL {p : Addr} {ys : List V} (h : SqL K H p ys) (q : ∀ l, H l = none → Q (.ref l) (upd H l (.lst ys))) : rListOf K [.ref p] H Q := ⟨p, ys, rfl, .inl h, q⟩
theorem g_listT {p : Addr} {ys : List V} (h : SqT K H p ys) (q : ∀ l, H l = none → Q (.ref l) (upd H l (.lst ys))) : rListOf K [.ref p] H Q := ⟨p, ys, rfl, .inr h, q⟩
theorem g_dnew (q : ∀ p, H p = none → Q (.ref p) (upd H p (.dK []))) : tDNewK σ H Q := q
def rDIn : V → V → Hp → VK → Prop := fun y x H Q => ∃ a o, x = .ref a ∧ DGet H a y o ∧ Q (.bl o.isSome) H
theorem g_din {ty td : TE} (q : ty σ H fun y H1 => td σ H1 fun x H2 => rDIn y x H2 Q) : tDIn ty td σ H Q := q
def rDNin : V → V → Hp → VK → Prop := fun y x H Q => ∃ a o, x = .ref a ∧ DGet H a y o ∧ Q (.bl (!o.isSome)) H
theorem g_dnin {ty td : TE} (q : ty σ H fun y H1 => td σ H1 fun x H2 => rDNin y x H2 Q) : tDNotIn ty td σ H Q := q
theorem g_dinS {a : Addr} {kvs : List (Key × V)} {z : Str} (h : H a = some (.dK kvs)) (q : Q (.bl (valV kvs (Sum.inr z)).isSome) H) : rDIn (.str z) (.ref a) H Q := ⟨a, _, rfl, DGet.k (k := Sum.inr z) h, q⟩
theorem g_dninS {a : Addr} {kvs : List (Key × V)} {z : Str} (h : H a = some (.dK kvs)) (q : Q (.bl (!(valV kvs (Sum.inr z)).isSome)) H) : rDNin (.str z) (.ref a) H Q := ⟨a, _, rfl, DGet.k (k := Sum.inr z) h, q⟩
def rDPut (D : Ends) (σ : L2.St) : V → V → V → Hp → Prop := fun v x y H3 => ∃ a H4, x = .ref a ∧ DPut H3 a y v H4 ∧ D.nx σ H4
theorem g_dput {td ty tv : TE} (q : tv σ H fun v H1 => td σ H1 fun x H2 => ty σ H2 fun y H3 => rDPut D σ v x y H3) : sDPut td ty tv D σ H := q
theorem g_dputS {a : Addr} {kvs : List (Key × V)} {z : Str} {v : V} (h : H a = some (.dK kvs)) (hz : kvs.length < sizeLine) (q : D.nx σ (upd H a (.dK (putK kvs (Sum.inr z) v)))) : rDPut D σ v (.ref a) (.str z) H :=
  ⟨a, _, rfl, DPut.k (k := Sum.inr z) h hz, q⟩
theorem g_eqB {b c : Bool} (q : Q (.bl (decide (b = c))) H) : rEq (.bl b) (.bl c) H Q := ⟨rfl, by
  have e : decide (V.bl b = V.bl c) = decide (b = c) := by rw [Bool.eq_iff_iff]; simp
  rw [e]; exact q⟩
theorem g_neB {b c : Bool} (q : Q (.bl (!decide (b = c))) H) : rNe (.bl b) (.bl c) H Q := ⟨rfl, by
  have e : decide (V.bl b = V.bl c) = decide (b = c) := by rw [Bool.eq_iff_iff]; simp
  rw [e]; exact q⟩
theorem kit_str_str : kitB "str" "str" = some true := by decide +kernel
theorem kit_str_int : kitB "str" "int" = some false := by decide +kernel
theorem kit_str_bool : kitB "str" "bool" = some false := by decide +kernel
theorem kit_str_tuple : kitB "str" "tuple" = some false := by decide +kernel
theorem kit_str_list : kitB "str" "list" = some false := by decide +kernel
theorem kit_str_dict : kitB "str" "dict" = some false := by decide +kernel
theorem kit_int_str : kitB "int" "str" = some false := by decide +kernel
theorem kit_int_int : kitB "int" "int" = some true := by decide +kernel
theorem kit_int_bool : kitB "int" "bool" = some false := by decide +kernel
theorem kit_int_tuple : kitB "int" "tuple" = some false := by decide +kernel
theorem kit_int_list : kitB "int" "list" = some false := by decide +kernel
theorem kit_int_dict : kitB "int" "dict" = some false := by decide +kernel
theorem kit_bool_str : kitB "bool" "str" = some false := by decide +kernel
theorem kit_bool_int : kitB "bool" "int" = some true := by decide +kernel
theorem kit_bool_bool : kitB "bool" "bool" = some true := by decide +kernel
theorem kit_bool_tuple : kitB "bool" "tuple" = some false := by decide +kernel
theorem kit_bool_list : kitB "bool" "list" = some false := by decide +kernel
theorem kit_bool_dict : kitB "bool" "dict" = some false := by decide +kernel
theorem kit_NoneType_str : kitB "NoneType" "str" = some false := by decide +kernel
theorem kit_NoneType_int : kitB "NoneType" "int" = some false := by decide +kernel
theorem kit_NoneType_bool : kitB "NoneType" "bool" = some false := by decide +kernel
theorem kit_NoneType_tuple : kitB "NoneType" "tuple" = some false := by decide +kernel
theorem kit_NoneType_list : kitB "NoneType" "list" = some false := by decide +kernel
theorem kit_NoneType_dict : kitB "NoneType" "dict" = some false := by decide +kernel
theorem kit_tuple_str : kitB "tuple" "str" = some false := by decide +kernel
theorem kit_tuple_int : kitB "tuple" "int" = some false := by decide +kernel
theorem kit_tuple_bool : kitB "tuple" "bool" = some false := by decide +kernel
theorem kit_tuple_tuple : kitB "tuple" "tuple" = some true := by decide +kernel
theorem kit_tuple_list : kitB "tuple" "list" = some false := by decide +kernel
theorem kit_tuple_dict : kitB "tuple" "dict" = some false := by decide +kernel
theorem kit_list_str : kitB "list" "str" = some false := by decide +kernel
theorem kit_list_int : kitB "list" "int" = some false := by decide +kernel
theorem kit_list_bool : kitB "list" "bool" = some false := by decide +kernel
theorem kit_list_tuple : kitB "list" "tuple" = some false := by decide +kernel
theorem kit_list_list : kitB "list" "list" = some true := by decide +kernel
theorem kit_list_dict : kitB "list" "dict" = some false := by decide +kernel
/-- isinstance(x, T), T a built-in class -/
def rInst (K : PySem.W.Frag) : List V → Hp → VK → Prop := fun xs H Q => ∃ (x : V) (t n : String) (b : Bool), xs = [x, .ty n] ∧ TyX K H x (.type t) ∧ kitB t n = some b ∧ Q (.bl b) H
theorem call_instK (h : X.K = K) : CallR X (.builtin "isinstance") (rInst K) := by
  subst h
  intro pins s σ H xs us Q I r ⟨x, t, n, b, e, ty, k, q⟩
  exact call_isi pins s σ H xs us Q I r ⟨x, .ty n, .type t, .type n, b, e, .ty n, ty, kit_ty k, q⟩
theorem g_instS {z : Str} {n : String} {b : Bool} (k : kitB "str" n = some b) (q : Q (.bl b) H) : rInst K [.str z, .ty n] H Q := ⟨_, _, n, b, rfl, .base (.str z), k, q⟩
theorem g_instI {i : Int} {n : String} {b : Bool} (k : kitB "int" n = some b) (q : Q (.bl b) H) : rInst K [.int i, .ty n] H Q := ⟨_, _, n, b, rfl, .base (.int i), k, q⟩
theorem g_instB {i : Bool} {n : String} {b : Bool} (k : kitB "bool" n = some b) (q : Q (.bl b) H) : rInst K [.bl i, .ty n] H Q := ⟨_, _, n, b, rfl, .base (.bl i), k, q⟩
theorem g_instN {n : String} {b : Bool} (k : kitB "NoneType" n = some b) (q : Q (.bl b) H) : rInst K [.non, .ty n] H Q := ⟨_, _, n, b, rfl, .base .non, k, q⟩
theorem g_instT {p : Addr} {xs : List V} {n : String} {b : Bool} (h : SqT K H p xs) (k : kitB "tuple" n = some b) (q : Q (.bl b) H) : rInst K [.ref p, .ty n] H Q := by
  refine ⟨_, "tuple", n, b, rfl, ?_, k, q⟩
  rcases h with (h | ⟨o, h⟩) | ⟨o, its, m, h, hc, _⟩
  · exact .base (.tup h)
  · exact .fTuple h
  · exact .kTuple h hc
theorem g_instL {p : Addr} {xs : List V} {n : String} {b : Bool} (h : SqL K H p xs) (k : kitB "list" n = some b) (q : Q (.bl b) H) : rInst K [.ref p, .ty n] H Q := by
  refine ⟨_, "list", n, b, rfl, ?_, k, q⟩
  rcases h with (h | ⟨o, h⟩) | ⟨o, its, m, h, hc, _⟩
  · exact .base (.lst h)
  · exact .base (.frz h)
  · exact .kList h hc
def partS : V → Str
  | .str s => s
  | .int i => toString i
  | _ => ""
theorem g_slT {p : Addr} {xs : List V} {lo hi : Option Int} (h : SqT K H p xs) (hw : ¬ (HT.sIx xs.length 0 lo = 0 ∧ HT.sIx xs.length xs.length hi = xs.length)) (q : ∀ p, H p = none → Q (.ref p) (upd H p (.tup (cutV xs lo hi)))) : rSlT K (.ref p) lo hi H Q :=
  ⟨p, xs, rfl, h, hw, q⟩
theorem g_slT1 {p : Addr} {v w : V} {r : List V} (h : SqT K H p (v :: w :: r)) (q : ∀ p, H p = none → Q (.ref p) (upd H p (.tup [v]))) : rSlT K (.ref p) none (some 1) H Q := by
  refine g_slT h (fun z => ?_) (fun p hp => ?_)
  · have h2 := z.2
    rw [show (1 : Int) = ((1 : Nat) : Int) from rfl, HT.sIx_nat, List.length_cons, List.length_cons] at h2
    omega
  · have e : cutV (v :: w :: r) none (some 1) = [v] := by rw [cutV_to _ (by decide)]; rfl
    rw [e]; exact q p hp
theorem g_slTt {p : Addr} {v : V} {r : List V} (h : SqT K H p (v :: r)) (q : ∀ p, H p = none → Q (.ref p) (upd H p (.tup r))) : rSlT K (.ref p) (some 1) none H Q := by
  refine g_slT h (fun z => ?_) (fun p hp => ?_)
  · have h2 := z.1
    rw [show (1 : Int) = ((1 : Nat) : Int) from rfl, HT.sIx_nat, List.length_cons] at h2
    omega
  · have e : cutV (v :: r) (some 1) none = r := by rw [cutV_from _ (by decide)]; rfl
    rw [e]; exact q p hp
theorem sqT_upd {l p : Addr} {xs vs : List V} {o : HO} (hl : H l = some (.lst xs)) (h : SqT K H p vs) : SqT K (upd H l o) p vs := by
  rcases h with (h | ⟨o', h⟩) | h
  · exact .inl (.inl (by rw [upd_ne (fun e => by rw [e, hl] at h; cases h)]; exact h))
  · exact .inl (.inr ⟨o', by rw [upd_ne (fun e => by rw [e, hl] at h; cases h)]; exact h⟩)
  · exact .inr h
end
/-! ### a comprehension over a tuple -/
/-! ### the plain law of entries -/
theorem joinL_cons (S p : List Nat) (q : List Nat) (r : List (List Nat)) : joinL S (p :: q :: r) = p ++ S ++ joinL S (q :: r) := by
  simp [joinL]
theorem joinL_ge {S : List Nat} : ∀ {ps : List (List Nat)} {p : List Nat}, p ∈ ps → p.length ≤ (joinL S ps).length
  | [], p, h => by cases h
  | [q], p, h => by
    have e : p = q := by simpa using h
    rw [e]; simp [joinL]
  | a :: q :: r, p, h => by
    rw [joinL_cons, List.length_append, List.length_append]
    rcases List.mem_cons.mp h with rfl | h
    · omega
    · have := joinL_ge (S := S) h
      omega
theorem split_le (z y : Str) : ∀ p ∈ Txt.split z y, p.length ≤ z.length := fun p hp => by
  have h := StrLaws.join_split z y
  have h1 := congrArg (fun x => (tl x).length) h
  have h2 : (joinL (tl y) ((Txt.split z y).map tl)).length = (tl z).length := by rw [← tl_join]; exact h1
  have h3 := joinL_ge (S := tl y) (List.mem_map_of_mem (f := tl) hp)
  rw [len_tl, len_tl]
  omega
inductive Ent where
  | ask (k g : Str) (c m : Int)
  | rel (k : Str) (m : Int)
namespace Ent
def vs : Ent → List V
  | .ask k g c m => [.str "ask", .str k, .str g, .int c, .int m]
  | .rel k m => [.str "release", .str k, .int m]
def key : Ent → Str
  | .ask k _ _ _ => k
  | .rel k _ => k
def mom : Ent → Int
  | .ask _ _ _ m => m
  | .rel _ m => m
def isAsk : Ent → Bool
  | .ask _ _ _ _ => true
  | .rel _ _ => false
def line (e : Ent) : Str := Txt.join " " (e.vs.map partS)
end Ent
def inLet (c : Nat) : Bool := decide (c ∈ ("abcdefghijklmnopqrstuvwxyz0123456789" : Str).cps.toList)
def isName (z : Str) : Bool := decide (1 ≤ (z.length : Int)) && decide ((z.length : Int) ≤ 12) && (tl z).all inLet
def isKey (z : Str) : Bool := decide (1 ≤ (z.length : Int)) && decide ((z.length : Int) ≤ 20) && (tl z).all fun c => inLet c || decide (c = 45)
def Ent.ok : Ent → Bool
  | .ask k g c m => isKey k && (isName g && ((decide (1 ≤ c) && decide (c ≤ 1000)) && (decide (0 ≤ m) && decide (m ≤ 1000000000))))
  | .rel k m => isKey k && (decide (0 ≤ m) && decide (m ≤ 1000000000))
/-- a row: each entry is one, at moments that don't fall, keys asked once and released when asked -/
def lastM (es : List Ent) : Int := (es.getLast?.map Ent.mom).getD 0
def Row (es : List Ent) : Prop := ∀ i e, es[i]? = some e → e.ok = true ∧ lastM (es.take i) ≤ e.mom ∧ (e.isAsk = true ↔ e.key ∉ (es.take i).map Ent.key)
theorem Row.nil : Row [] := fun i e h => by simp at h
theorem Row.take {es : List Ent} (h : Row es) (n : Nat) : Row (es.take n) := fun i e hi => by
  have h1 : i < n ∧ es[i]? = some e := by
    rw [List.getElem?_take] at hi
    by_cases hn : i < n
    · rw [if_pos hn] at hi; exact ⟨hn, hi⟩
    · rw [if_neg hn] at hi; cases hi
  rw [List.take_take, Nat.min_eq_left (Nat.le_of_lt h1.1)]
  exact h i e h1.2
theorem Row.snoc {es : List Ent} (h : Row es) {e : Ent} (h1 : e.ok = true) (h2 : lastM es ≤ e.mom) (h3 : e.isAsk = true ↔ e.key ∉ es.map Ent.key) : Row (es ++ [e]) := fun i x hi => by
  rcases Nat.lt_trichotomy i es.length with hl | hl | hl
  · rw [List.getElem?_append_left hl] at hi
    rw [List.take_append_of_le_length (Nat.le_of_lt hl)]
    exact h i x hi
  · subst hl
    rw [List.getElem?_append_right (Nat.le_refl _), Nat.sub_self] at hi
    cases hi
    rw [List.take_append_of_le_length (Nat.le_refl _), List.take_of_length_le (Nat.le_refl _)]
    exact ⟨h1, h2, h3⟩
  · rw [List.getElem?_eq_none (by rw [List.length_append]; simp; omega)] at hi
    cases hi
theorem Row.ok {es : List Ent} (h : Row es) : ∀ e ∈ es, e.ok = true := fun e he => by
  obtain ⟨i, hi, e1⟩ := List.mem_iff_getElem.mp he
  exact (h i e (by rw [List.getElem?_eq_getElem hi, e1])).1
/-- the list of entries stands in the heap -/
def RowAt (K : PySem.W.Frag) (H : Hp) (l : Addr) (xs : List (Addr × Ent)) : Prop := SqL K H l (xs.map fun x => V.ref x.1) ∧ ∀ x ∈ xs, SqT K H x.1 x.2.vs
theorem RowAt.mono {K : PySem.W.Frag} {H H' : Hp} {l : Addr} {xs : List (Addr × Ent)} (h : RowAt K H l xs) (e : Ex H H') : RowAt K H' l xs := ⟨ex_sqL e h.1, fun x hx => ex_sqT e (h.2 x hx)⟩
/-! the drawn keys and groups -/
/-! ### steps of defs that raise -/
section
variable {K : PySem.W.Frag} {H : Hp} {Q : VK} {σ : L2.St} {D : Ends} {C C2 a dd : Addr} {f : Str} {W Wout : WX} {v : V} {fs : List (Str × V)} {cls c : Value} {d : Option Addr} {ts : Addr → Value → Option Addr → TS}
def rRaise (C : Addr) (f : Str) (W : WX) (σ : L2.St) : List V → Hp → Prop := fun vs H1 => ∃ v, vs = [v] ∧ ∀ d, H1 d = none → W (.ref C) (some d) σ (upd H1 d (.xd [(f, v)]))
theorem g_raise {ta : TA} (q : ta σ H (rRaise C f W σ)) : tRaise C f W ta D σ H := q
theorem g_raise1 (q : ∀ d, H d = none → W (.ref C) (some d) σ (upd H d (.xd [(f, v)]))) : rRaise C f W σ [v] H := ⟨v, rfl, q⟩
theorem g_callS {sp : Sp} {E : L2.St → XK} {t : TA} (q : t σ H fun vs H1 => sp vs H1 Q (E σ)) : tCallS sp E t σ H Q := q
def rXf (a : Addr) (cls : Value) (d : Option Addr) (C : Addr) (f : Str) : V → Hp → VK → Prop := fun x H1 Q => x = .ref a ∧ cls = .ref C ∧ ∃ (dd : Addr) (fs : List (Str × V)) (v : V), d = some dd ∧ H1 dd = some (.xd fs) ∧ fs.lookup f = some v ∧ Q v H1
theorem g_xf {te : TE} (q : te σ H fun x H1 => rXf a cls d C f x H1 Q) : tXf a cls d C f te σ H Q := q
theorem g_xf1 (hd : H dd = some (.xd fs)) (hl : fs.lookup f = some v) (q : Q v H) : rXf a (.ref C) (some dd) C f (.ref a) H Q := ⟨rfl, rfl, dd, fs, v, rfl, hd, hl, q⟩
theorem g_isED {b : Bool} (hk : PySem.W.kitOne K (.ref C) (.ref C2) = some b) (hd : H dd = some (.xd fs)) (q : Q (.bl b) H) : rIsED K C a (.ref C) (some dd) [.ref a, .ref C2] H Q :=
  ⟨.ref C2, .ref C2, b, dd, fs, rfl, rfl, (fun u r => r), hk, rfl, hd, q⟩
end
section
variable {H : Hp} {Q : VK} {σ : L2.St}
theorem g_repl1 {to : TE} {y z : Str} (q : to σ H fun v H1 => rRepl1 y z v H1 Q) : tRepl1 to y z σ H Q := q
end
/-! ### spoilt lines of entries -/
/-! ### rows and texts of the law -/
theorem Row.cons {e0 : Ent} {es : List Ent} (h : Row es) (h0 : e0.ok = true) (ha : e0.isAsk = true) (hm : e0.mom = 0) (hk : e0.key ∉ es.map Ent.key) : Row (e0 :: es) := fun i e hi => by
  cases i with
  | zero =>
    cases hi
    exact ⟨h0, by rw [hm]; exact Int.le_refl _, fun _ => by simp, fun _ => ha⟩
  | succ i =>
    rw [List.getElem?_cons_succ] at hi
    obtain ⟨a, b, c⟩ := h i e hi
    have hke : e.key ≠ e0.key := fun z => hk (z ▸ List.mem_map_of_mem (List.mem_of_getElem? hi))
    refine ⟨a, ?_, ?_⟩
    · rw [List.take_succ_cons]
      cases hl : es.take i with
      | nil =>
        have e1 : lastM [e0] = e0.mom := rfl
        rw [e1, hm]
        rw [hl] at b
        exact b
      | cons x r =>
        have e1 : lastM (e0 :: x :: r) = lastM (x :: r) := by unfold lastM; rw [List.getLast?_cons_cons]
        rw [e1, ← hl]
        exact b
    · rw [List.take_succ_cons, List.map_cons, List.mem_cons, not_or, c]
      exact ⟨fun z => ⟨hke, z⟩, fun z => z.2⟩
theorem split_nl {zs : List Str} (hne : zs ≠ []) (h : ∀ z ∈ zs, 10 ∉ tl z) : Txt.split (Txt.join "\n" zs) "\n" = zs := split_join (s := 10) (S := []) rfl (by decide +kernel) hne h
/-! ### entries of any parts -/
def RowV (K : PySem.W.Frag) (H : Hp) (l : Addr) (xs : List (Addr × List V)) : Prop := SqL K H l (xs.map fun x => V.ref x.1) ∧ ∀ x ∈ xs, SqT K H x.1 x.2
theorem RowV.mono {K : PySem.W.Frag} {H H' : Hp} {l : Addr} {xs : List (Addr × List V)} (h : RowV K H l xs) (e : Ex H H') : RowV K H' l xs := ⟨ex_sqL e h.1, fun x hx => ex_sqT e (h.2 x hx)⟩
/-! ### several except clauses, some of them with a name -/
/-! ### views: steps and plain law -/
def ViewAt (K : PySem.W.Frag) (H : Hp) (p : Addr) (n : Int) (zs : List Str) : Prop := ∃ q, SqT K H p [.int n, .ref q] ∧ SqT K H q (zs.map V.str)
theorem ViewAt.mono {K : PySem.W.Frag} {H H' : Hp} {p : Addr} {n : Int} {zs : List Str} (h : ViewAt K H p n zs) (e : Ex H H') : ViewAt K H' p n zs := by
  obtain ⟨q, h1, h2⟩ := h
  exact ⟨q, ex_sqT e h1, ex_sqT e h2⟩
/-! ### tuples that are known to have no dict: their methods -/
def Dn (H : Hp) (p : Addr) : Prop := ∃ o u, H p = some (.frz o u) ∧ o.cls = .type "tuple" ∧ o.dict = none
theorem ex_dn {H H' : Hp} {p : Addr} (e : Ex H H') (h : Dn H p) : Dn H' p := by
  obtain ⟨o, u, h1, h2⟩ := h
  exact ⟨o, u, e p _ h1, h2⟩
def ViewF (K : PySem.W.Frag) (H : Hp) (p : Addr) (n : Int) (zs : List Str) : Prop := ∃ q, SqT K H p [.int n, .ref q] ∧ SqT K H q (zs.map V.str) ∧ Dn H q
theorem ViewF.mono {K : PySem.W.Frag} {H H' : Hp} {p : Addr} {n : Int} {zs : List Str} (h : ViewF K H p n zs) (e : Ex H H') : ViewF K H' p n zs := by
  obtain ⟨q, h1, h2, h3⟩ := h
  exact ⟨q, ex_sqT e h1, ex_sqT e h2, ex_dn e h3⟩
/-! names made of a base -/
/-! ### objects with fields: steps -/
section
variable {K : PySem.W.Frag} {H : Hp} {Q : VK} {σ : L2.St} {te ta tv : TE} {t : TA} {f m : Str} {C p dx : Addr} {fs : List (Str × V)} {v : V} {D : Ends} {sp : Sp} {dvs : List V} {E : XK}
/-- what stands, but the object at m -/
def ExP (m : Addr) (H H' : Hp) : Prop := ∀ b o, b ≠ m → H b = some o → H' b = some o
theorem ExP.trans {m : Addr} {H H' H2 : Hp} (e : ExP m H H') (e2 : ExP m H' H2) : ExP m H H2 := fun b o hb h => e2 b o hb (e b o hb h)
theorem ExP.upd {m : Addr} {H H' : Hp} {o : HO} (e : ExP m H H') : ExP m H (L2.upd H' m o) := fun b o hb h => by rw [upd_ne hb]; exact e b o hb h
end
/-! ### the gap: limits and meters -/
def LimG (K : PySem.W.Frag) (H : Hp) (p : Addr) (gs : List Str) (t : Int) : Prop := ∃ g n, SqT K H p [.str "gap1", .str "gap", .ref g, .ref n] ∧ SqT K H g (gs.map V.str) ∧ SqT K H n [.int t]
theorem LimG.mono {K : PySem.W.Frag} {H H' : Hp} {p : Addr} {gs : List Str} {t : Int} (h : LimG K H p gs t) (e : Ex H H') : LimG K H' p gs t := by
  obtain ⟨g, n, h1, h2, h3⟩ := h
  exact ⟨g, n, ex_sqT e h1, ex_sqT e h2, ex_sqT e h3⟩
def oN : Option Int → V
  | some i => .int i
  | none => .non
def flG (lim : Addr) (t : Int) (last : Option Int) : List (Str × V) := [("limit", .ref lim), ("_ticks", .int t), ("_last", oN last)]
section
variable {K : PySem.W.Frag} {H : Hp} {σ : L2.St} {T : Addr} {x y z u : V} {i j k l : Nat} {Qs : L2.St → Hp → Prop}
theorem g_gtup3 (h : SqT K H T [x, y, z]) (q : Qs (((σ.set i (some x)).set j (some y)).set k (some z)) H) : gTup K 3 (gCons (gName i) (gCons (gName j) (gCons (gName k) gNil))) (.ref T) σ H Qs :=
  ⟨T, [x, y, z], rfl, h, rfl, x, [y, z], rfl, y, [z], rfl, z, [], rfl, rfl, q⟩
end
abbrev R4 : Type := Int × Str × Int × Str
def R4.vs (r : R4) : List V := [.int r.1, .str r.2.1, .int r.2.2.1, .str r.2.2.2]
def RowsG (K : PySem.W.Frag) (H : Hp) (xs : List (Addr × R4)) : Prop := ∀ x ∈ xs, SqT K H x.1 x.2.vs
theorem RowsG.mono {K : PySem.W.Frag} {H H' : Hp} {xs : List (Addr × R4)} (h : RowsG K H xs) (e : Ex H H') : RowsG K H' xs := fun x hx => ex_sqT e (h x hx)
structure WSt (K : PySem.W.Frag) (C m dx p l : Addr) (ns : List Int) (gs : List Str) (t : Int) (pl pg : Addr) (last : Option Int) (xs : List (Addr × R4)) (H : Hp) : Prop where
  hm : H m = some (.ins C dx (flG p t last))
  hL : LimG K H p gs t
  hS : SqL K H l (ns.map V.int)
  hA : H pl = some (.lst (xs.map fun x => V.ref x.1))
  hG : H pg = some (.lst [])
  hR : RowsG K H xs
section
variable {K : PySem.W.Frag} {C m dx p l : Addr} {ns : List Int} {gs : List Str} {t : Int} {pl pg : Addr} {last last2 : Option Int} {xs : List (Addr × R4)} {H H' : Hp}
theorem WSt.mono (w : WSt K C m dx p l ns gs t pl pg last xs H) (e : Ex H H') : WSt K C m dx p l ns gs t pl pg last xs H' :=
  ⟨ex_at e w.hm, w.hL.mono e, ex_sqL e w.hS, ex_at e w.hA, ex_at e w.hG, w.hR.mono e⟩
theorem sqT_lst {q : Addr} {o : HO} {vs ys : List V} (hA : H pl = some (.lst ys)) (h : SqT K H q vs) : SqT K (upd H pl o) q vs := sqT_upd hA h
theorem ExP.mut {q : Addr} {o : HO} (e : ExP m H H') (h : H q = none) : ExP m H (L2.upd H' q o) := fun b u hb hu => by
  rw [upd_ne (fun z => by rw [z, h] at hu; cases hu)]
  exact e b u hb hu
end
theorem g_eqSame {K : PySem.W.Frag} {H : Hp} {Q : VK} {x y : V} (d : PyData) (h1 : Dp K H x d) (h2 : Dp K H y d) (s1 : SeqAt.shaped d = true) (q : Q (.bl true) H) : rEqD K x y H Q := ⟨d, d, h1, h2, s1, s1, by rw [SeqAt.eqv_refl _ (SeqAt.canLay_of_shaped s1)]; exact q⟩
/-! ### limits of two numbers (window, span, bucket) and their meters -/
def LimF (K : PySem.W.Frag) (H : Hp) (p : Addr) (w : Str) (gs : List Str) (s t : Int) : Prop := ∃ g n, SqT K H p [.str "flow1", .str w, .ref g, .ref n] ∧ SqT K H g (gs.map V.str) ∧ SqT K H n [.int s, .int t]
section
variable {K : PySem.W.Frag} {H H' : Hp} {p : Addr} {wd : Str} {gs : List Str} {s t : Int} {m C dx : Addr} {fs fs2 : List (Str × V)}
theorem LimF.mono (h : LimF K H p wd gs s t) (e : Ex H H') : LimF K H' p wd gs s t := by
  obtain ⟨g, n, h1, h2, h3⟩ := h
  exact ⟨g, n, ex_sqT e h1, ex_sqT e h2, ex_sqT e h3⟩
structure WStF (K : PySem.W.Frag) (C m dx p l : Addr) (fs : List (Str × V)) (wd : Str) (ns : List Int) (gs : List Str) (s t : Int) (pl pg : Addr) (xs : List (Addr × R4)) (H : Hp) : Prop where
  hm : H m = some (.ins C dx fs)
  hL : LimF K H p wd gs s t
  hS : SqL K H l (ns.map V.int)
  hA : H pl = some (.lst (xs.map fun x => V.ref x.1))
  hG : H pg = some (.lst [])
  hR : RowsG K H xs
variable {l pl pg : Addr} {ns : List Int} {xs : List (Addr × R4)}
theorem WStF.mono (w : WStF K C m dx p l fs wd ns gs s t pl pg xs H) (e : Ex H H') : WStF K C m dx p l fs wd ns gs s t pl pg xs H' :=
  ⟨ex_at e w.hm, w.hL.mono e, ex_sqL e w.hS, ex_at e w.hA, ex_at e w.hG, w.hR.mono e⟩
end
/-- moment and cost of a row -/
abbrev MC : Type := Int × Int
/-! spans -/
def atS (t k : Int) (rs : List MC) : Int := ((rs.filter fun r => decide (r.1 / t = k)).map (·.2)).sum
theorem atS_snoc (t k : Int) (rs : List MC) (m c : Int) : atS t k (rs ++ [(m, c)]) = atS t k rs + if m / t = k then c else 0 := by
  unfold atS
  rw [List.filter_append, List.map_append, List.sum_append]
  by_cases h : m / t = k
  · rw [List.filter_cons_of_pos (by rw [decide_eq_true h]), if_pos h]
    simp
  · rw [List.filter_cons_of_neg (by rw [decide_eq_false h]; decide), if_neg h]
    simp
theorem atS_new {t k : Int} {rs : List MC} (h : ∀ r ∈ rs, r.1 / t < k) : atS t k rs = 0 := by
  unfold atS
  have e : (rs.filter fun r => decide (r.1 / t = k)) = [] := by
    rw [List.filter_eq_nil_iff]
    intro r hr
    have := h r hr
    rw [decide_eq_true_eq]
    omega
  rw [e]
  rfl
/-- what the meter keeps -/
structure KeepS (t mo sp us : Int) (rs : List MC) : Prop where
  us : us = atS t sp rs
  all : ∀ r ∈ rs, r.1 / t ≤ sp
  le : sp ≤ mo / t
def usedS (t sp us m : Int) : Int := if m / t = sp then us else 0
theorem KeepS.used {t mo sp us m : Int} {rs : List MC} (k : KeepS t mo sp us rs) (ht : 1 ≤ t) (h : mo ≤ m) : usedS t sp us m = atS t (m / t) rs := by
  have h1 : mo / t ≤ m / t := Int.ediv_le_ediv (by omega) h
  have h2 := k.le
  unfold usedS
  by_cases e : m / t = sp
  · rw [if_pos e, e]; exact k.us
  · rw [if_neg e, atS_new]
    intro r hr
    have := k.all r hr
    omega
theorem KeepS.snoc {t mo m c sp us : Int} {rs : List MC} (k : KeepS t mo sp us rs) (ht : 1 ≤ t) (h : mo ≤ m) : KeepS t m (m / t) (usedS t sp us m + c) (rs ++ [(m, c)]) := by
  have h1 : mo / t ≤ m / t := Int.ediv_le_ediv (by omega) h
  have h2 := k.le
  refine ⟨by rw [k.used ht h, atS_snoc, if_pos rfl], fun r hr => ?_, Int.le_refl _⟩
  rcases List.mem_append.mp hr with hr | hr
  · have := k.all r hr; omega
  · rw [List.mem_singleton] at hr
    rw [hr]
    exact Int.le_refl _
/-! the meter's fields -/
/-! ### windows: plain law -/
/-- what still counts at m -/
def sinceW (t m : Int) (rs : List MC) : Int := ((rs.filter fun r => decide (r.1 > m - t)).map (·.2)).sum
theorem sinceW_snoc (t a : Int) (rs : List MC) (m c : Int) : sinceW t a (rs ++ [(m, c)]) = sinceW t a rs + if m > a - t then c else 0 := by
  unfold sinceW
  rw [List.filter_append, List.map_append, List.sum_append]
  by_cases h : m > a - t
  · rw [List.filter_cons_of_pos (by rw [decide_eq_true h]), if_pos h]
    simp
  · rw [List.filter_cons_of_neg (by rw [decide_eq_false h]; decide), if_neg h]
    simp
def live (t m : Int) (ps : List MC) : List MC := ps.filter fun r => decide (r.1 > m - t)
theorem live_since {t m m2 : Int} (h : m ≤ m2) (ps : List MC) : sinceW t m2 (live t m ps) = sinceW t m2 ps := by
  unfold sinceW live
  rw [List.filter_filter]
  congr 2
  apply List.filter_congr
  intro r _
  rw [Bool.eq_iff_iff, Bool.and_eq_true, decide_eq_true_eq, decide_eq_true_eq]
  omega
/-- what the meter keeps behind let -/
def letW (t m c : Int) (ps : List MC) : List MC := match (live t m ps).getLast? with
  | some r => if r.1 = m then (live t m ps).dropLast ++ [(m, c + r.2)] else live t m ps ++ [(m, c)]
  | none => live t m ps ++ [(m, c)]
structure KeepW (t mo : Int) (ps rs : List MC) : Prop where
  eq : ∀ m, mo ≤ m → sinceW t m ps = sinceW t m rs
  le : ∀ r ∈ ps, r.1 ≤ mo
  lers : ∀ r ∈ rs, r.1 ≤ mo
  inc : ps.Pairwise fun a b => a.1 < b.1
  sub : ∀ r ∈ ps, ∃ q ∈ rs, q.1 = r.1
theorem letW_since {t m c : Int} (m2 : Int) (ps : List MC) : sinceW t m2 (letW t m c ps) = sinceW t m2 (live t m ps) + if m > m2 - t then c else 0 := by
  unfold letW
  cases hl : (live t m ps).getLast? with
  | none => exact sinceW_snoc t m2 _ m c
  | some r =>
    show sinceW t m2 (if r.1 = m then (live t m ps).dropLast ++ [(m, c + r.2)] else live t m ps ++ [(m, c)]) = _
    by_cases e : r.1 = m
    · rw [if_pos e]
      have hne : live t m ps ≠ [] := fun h => by rw [h] at hl; cases hl
      have hr : (live t m ps).getLast hne = r := by
        rw [List.getLast?_eq_some_getLast hne] at hl
        exact Option.some.inj hl
      have hd : live t m ps = (live t m ps).dropLast ++ [r] := by
        rw [← hr]; exact (List.dropLast_concat_getLast hne).symm
      generalize (live t m ps).dropLast = ini at hd ⊢
      rw [hd, show ([r] : List MC) = [(r.1, r.2)] from rfl, sinceW_snoc, sinceW_snoc, e]
      split <;> omega
    · rw [if_neg e]
      exact sinceW_snoc t m2 _ m c
theorem letW_mem {t m c : Int} {ps : List MC} {r : MC} (h : r ∈ letW t m c ps) : r.1 = m ∨ r ∈ ps := by
  have key : ∀ x ∈ live t m ps, x ∈ ps := fun x hx => (List.mem_filter.mp hx).1
  unfold letW at h
  split at h
  · split at h
    · rcases List.mem_append.mp h with h | h
      · exact .inr (key r (List.dropLast_subset _ h))
      · rw [List.mem_singleton] at h; rw [h]; exact .inl rfl
    · rcases List.mem_append.mp h with h | h
      · exact .inr (key r h)
      · rw [List.mem_singleton] at h; rw [h]; exact .inl rfl
  · rcases List.mem_append.mp h with h | h
    · exact .inr (key r h)
    · rw [List.mem_singleton] at h; rw [h]; exact .inl rfl
theorem live_inc {t m : Int} {ps : List MC} (h : ps.Pairwise fun a b => a.1 < b.1) : (live t m ps).Pairwise fun a b => a.1 < b.1 := h.sublist List.filter_sublist
theorem inc_snoc {l : List MC} {x : MC} (h : l.Pairwise fun a b => a.1 < b.1) (hx : ∀ r ∈ l, r.1 < x.1) : (l ++ [x]).Pairwise fun a b => a.1 < b.1 := by
  rw [List.pairwise_append]
  refine ⟨h, List.pairwise_singleton _ _, fun a ha b hb => ?_⟩
  rw [List.mem_singleton] at hb
  rw [hb]
  exact hx a ha
theorem letW_inc {t m c : Int} {ps : List MC} (h : ps.Pairwise fun a b => a.1 < b.1) (hm : ∀ r ∈ ps, r.1 ≤ m) : (letW t m c ps).Pairwise fun a b => a.1 < b.1 := by
  have hi := live_inc (t := t) (m := m) h
  have hl : ∀ r ∈ live t m ps, r.1 ≤ m := fun r hr => hm r (List.mem_filter.mp hr).1
  unfold letW
  generalize live t m ps = l at hi hl
  cases hg : l.getLast? with
  | none =>
    have : l = [] := List.getLast?_eq_none_iff.mp hg
    rw [this]
    exact List.pairwise_singleton _ _
  | some r =>
    have hne : l ≠ [] := fun h => by rw [h] at hg; cases hg
    have hr : l.getLast hne = r := by
      rw [List.getLast?_eq_some_getLast hne] at hg
      exact Option.some.inj hg
    have hd : l = l.dropLast ++ [r] := by rw [← hr]; exact (List.dropLast_concat_getLast hne).symm
    generalize l.dropLast = ini at hd
    rw [hd] at hi hl
    rw [List.pairwise_append] at hi
    show List.Pairwise _ (if r.1 = m then ini ++ [(m, c + r.2)] else l ++ [(m, c)])
    by_cases e : r.1 = m
    · rw [if_pos e]
      refine inc_snoc hi.1 fun a ha => ?_
      have := hi.2.2 a ha r (.head _)
      show a.1 < m
      omega
    · rw [if_neg e, hd]
      have hrl := hl r (List.mem_append_right _ (.head _))
      refine inc_snoc (List.pairwise_append.mpr hi) fun a ha => ?_
      show a.1 < m
      rcases List.mem_append.mp ha with ha | ha
      · have := hi.2.2 a ha r (.head _); omega
      · rw [List.mem_singleton] at ha; rw [ha]; omega
theorem KeepW.snoc {t mo m c : Int} {ps rs : List MC} (k : KeepW t mo ps rs) (h : mo ≤ m) : KeepW t m (letW t m c ps) (rs ++ [(m, c)]) := by
  refine ⟨fun x hx => ?_, fun r hr => ?_, fun r hr => ?_, letW_inc k.inc fun r hr => Int.le_trans (k.le r hr) h, fun r hr => ?_⟩
  · rw [letW_since, live_since hx, sinceW_snoc, k.eq x (by omega)]
  · rcases letW_mem hr with e | hr
    · omega
    · exact Int.le_trans (k.le r hr) h
  · rcases List.mem_append.mp hr with hr | hr
    · exact Int.le_trans (k.lers r hr) h
    · rw [List.mem_singleton] at hr; rw [hr]; exact Int.le_refl _
  · rcases letW_mem hr with e | hr
    · exact ⟨(m, c), List.mem_append_right _ (.head _), e.symm⟩
    · obtain ⟨q, hq, e⟩ := k.sub r hr
      exact ⟨q, List.mem_append_left _ hq, e⟩
/-! steps -/
section
variable {X : Cx} {K : PySem.W.Frag}
def tTruK (K : PySem.W.Frag) (ta : TE) : TT := fun σ H Q => ta σ H fun x H2 => ∃ k, TruV K x H2 k ∧ Q k H2
theorem pt_truthK {e : Expr} {ta : TE} (h : X.K = K) (ha : PE X e ta) (he : ∀ whole, isTrue e X.env whole = (do let v ← whole; standAt e.pos; holding [v] (truthy v))) : PT X e (tTruK K ta) := by subst h; exact pt_truth ha he
theorem g_tru {ta : TE} {σ : L2.St} {H : Hp} {Q : Bool → Hp → Prop} (q : ta σ H fun x H2 => ∃ k, TruV K x H2 k ∧ Q k H2) : tTruK K ta σ H Q := q
end
def flW (lim : Addr) (s t : Int) (pS : Addr) : List (Str × V) := [("limit", .ref lim), ("_most", .int s), ("_length", .int t), ("_sums", .ref pS)]
/-- the list of sums -/
def SumsAt (K : PySem.W.Frag) (H : Hp) (p : Addr) (qs : List (Addr × MC)) : Prop := H p = some (.lst (qs.map fun x => V.ref x.1)) ∧ ∀ x ∈ qs, SqT K H x.1 [.int x.2.1, .int x.2.2]
theorem SumsAt.mono {K : PySem.W.Frag} {H H' : Hp} {p : Addr} {qs : List (Addr × MC)} (h : SumsAt K H p qs) (e : Ex H H') : SumsAt K H' p qs := ⟨ex_at e h.1, fun x hx => ex_sqT e (h.2 x hx)⟩
theorem SumsAt.mut {K : PySem.W.Frag} {H : Hp} {p q : Addr} {o : HO} {ys : List V} {qs : List (Addr × MC)} (h : SumsAt K H p qs) (hq : H q = some (.lst ys)) (hne : p ≠ q) : SumsAt K (upd H q o) p qs := ⟨by rw [upd_ne hne]; exact h.1, fun x hx => sqT_lst hq (h.2 x hx)⟩
/-! limits of two numbers, of any name -/
def LimN (K : PySem.W.Frag) (H : Hp) (p : Addr) (nm w : Str) (gs : List Str) (s t : Int) : Prop := ∃ g n, SqT K H p [.str nm, .str w, .ref g, .ref n] ∧ SqT K H g (gs.map V.str) ∧ SqT K H n [.int s, .int t]
theorem LimN.mono {K : PySem.W.Frag} {H H' : Hp} {p : Addr} {nm wd : Str} {gs : List Str} {s t : Int} (h : LimN K H p nm wd gs s t) (e : Ex H H') : LimN K H' p nm wd gs s t := by
  obtain ⟨g, n, h1, h2, h3⟩ := h
  exact ⟨g, n, ex_sqT e h1, ex_sqT e h2, ex_sqT e h3⟩
/-! the walk's state -/
structure WStW (K : PySem.W.Frag) (C m dx p l pS : Addr) (wd : Str) (ns : List Int) (gs : List Str) (s t : Int) (pl pg : Addr) (qs : List (Addr × MC)) (xs : List (Addr × R4)) (H : Hp) : Prop where
  w : WStF K C m dx p l (flW p s t pS) wd ns gs s t pl pg xs H
  u : SumsAt K H pS qs
  ne : pS ≠ pl
section
variable {K : PySem.W.Frag} {H H' : Hp} {p : Addr} {wd : Str} {gs : List Str} {s t : Int} {C m dx pS pS2 l pl pg : Addr} {ns : List Int} {qs qs2 : List (Addr × MC)} {xs : List (Addr × R4)}
theorem WStW.mono (w : WStW K C m dx p l pS wd ns gs s t pl pg qs xs H) (e : Ex H H') : WStW K C m dx p l pS wd ns gs s t pl pg qs xs H' := ⟨w.w.mono e, w.u.mono e, w.ne⟩
end
/-- the state of the many requests -/
structure MSt (K : PySem.W.Frag) (H : Hp) (C m dx p : Addr) (s t : Int) (pS pl : Addr) (qs xs : List (Addr × MC)) (i : Nat) (mo : Int) : Prop where
  hm : H m = some (.ins C dx (flW p s t pS))
  hL : LimN K H p "many" "window" [] s t
  hU : SumsAt K H pS qs
  hX : SumsAt K H pl xs
  ne : pS ≠ pl
  hq : qs.length ≤ i
  hx : xs.length ≤ i
  hk : KeepW t mo (qs.map (·.2)) (xs.map (·.2))
theorem MSt.mono {K : PySem.W.Frag} {H H' : Hp} {C m dx p : Addr} {s t : Int} {pS pl : Addr} {qs xs : List (Addr × MC)} {i : Nat} {mo : Int} (M : MSt K H C m dx p s t pS pl qs xs i mo) (e : Ex H H') : MSt K H' C m dx p s t pS pl qs xs i mo :=
  ⟨ex_at e M.hm, M.hL.mono e, M.hU.mono e, M.hX.mono e, M.ne, M.hq, M.hx, M.hk⟩
/-! the loop of earliest -/
/-! ### repr of lists and tuples: in a def that is called while no repr is under way -/
structure FnG (P : Program) (w : World) (K : PySem.W.Frag) (mg : Str → Option Value) (base : Heap) (CX : CXT) (k : Nat) (f : Addr) (fd : FuncData) (ps : List Str) (sp : Sp) : Prop where
  size : ∀ {vs : List V} {H : Hp} {Q : VK} {E : XK}, sp vs H Q E → vs.length = ps.length
  go : ∀ {A : Around} {outer : List Env} {s : Shared} {H : Hp} {args : Args} {us : List Value} {vs : List V} {Q : VK} {E : XK}, A.guards = some [] → Room k A → Env0 P w K mg base A outer s H →
    BindsTo s fd args (ps.zip us) → Vals vs us → sp vs H Q E → codeAny (model P w) A (.call (.ref f) args) (CR CX outer P w H s Q E) s
section
variable {P : Program} {w : World} {K : PySem.W.Frag} {mg : Str → Option Value} {base : Heap} {k : Nat} {f : Addr} {fd : FuncData} {ps N : List Str} {sp : Sp} {x qual : Str} {st : Stmt}
theorem fun_okG (F : Fun K x qual st f fd) (S : FnScope N ps (defScope st)) (hn : ∀ vs H Q E, sp vs H Q E → vs.length = ps.length)
    (hB : ∀ (cdv : Value) (A : Around) (out : List Env) (s : Shared) (H : Hp) (vs : List V) (Q : VK) (E : XK), (A.deeper (envOfC qual (defScope st) s.heap.objs.size f cdv)).guards = some [] → Room k (A.deeper (envOfC qual (defScope st) s.heap.objs.size f cdv)) → sp vs H Q E →
      ∃ t, PSs (cxOf CX0 P w K mg base N qual (defScope st) f cdv A out s H E).nox (defBody st) t ∧ t { nx := fun _ H1 => Q .non H1, rt := Q } (L2.start N vs) H) : FnG P w K mg base CX0 (k + 1) f fd ps sp := by
  obtain ⟨oc, od, kV, doc, pm, an, cdv, ct, osl, hfd, look, hcd⟩ := F.ex
  subst hfd
  refine ⟨fun q => hn _ _ _ _ q, ?_⟩
  intro A out s H args us vs Q E hg hr env hb r q
  have kin := env.mod.kin.keeps fun b o e => (env.bs b o e).1
  have nol := env.mod.nolimit.keeps fun b o e => (env.bs b o e).1
  refine codeAny_call_function hr.depth (kin _ _ look) rfl S.co S.gen rfl (PySem.W.codeRec_of kin hcd) (hb _ _ _ _ ?_)
  refine wpAny_newFunctionEnv_cells S.kind (fun y hy => ?_) (fun env1 he s1 z => ?_)
  · have h1 := S.par y.1 (List.of_mem_zip (show (y.1, y.2) ∈ _ from hy)).1
    exact h1.imp id fun h2 => ⟨h2, PySem.W.cellsFrom_some _ _ _ (.inl h2)⟩
  subst he
  refine ⟨nol.keeps z.toInCall.keep, codeAny_func ?_⟩
  obtain ⟨t, hps, ht⟩ := hB cdv A out s H vs Q E hg (hr.deeper _) q
  have I0 := inv_start (CX := CX0) (E := E) S hr.hd env (hn _ _ _ _ q) r z
  have run := hps.nox.run [] s1 (L2.start N vs) H _ I0 ht
  refine wpAny_mono run (fun fl s2 hfl => ?_) (fun _ _ y => y)
  match fl, hfl with
  | .ret u, ⟨v, σ1, H1, J, rv, hq⟩ => exact ⟨v, H1, J.os, J.bare, J.base, J.hok, rv, hq⟩
  | .next, ⟨σ1, H1, J, hq⟩ => exact ⟨V.non, H1, J.os, J.bare, J.base, J.hok, rfl, hq⟩
  | .brk, ⟨_, _, _, hq⟩ => exact hq.elim
  | .cont, ⟨_, _, _, hq⟩ => exact hq.elim
end
section
variable {P : Program} {w : World} {K : PySem.W.Frag} {mg mb : Str → Option Value} {k : Nat} {fa a : Addr} {fd : FuncData} {x : Str} {sp : Sp} {s : Shared} {vs : List Value} {ns : List Int}
/-- the abstract heap at the law's call: the script alone, if it is no part of the module -/
def scrH (K : PySem.W.Frag) (a : Addr) (vs : List Value) (ns : List Int) : Hp := fun b => if b = a ∧ (K.lookup a).isNone = true then some (.frz { cls := .type "list", data := .seq vs.toArray } (.lst (ns.map V.int))) else none
theorem scrH_at {b : Addr} {u : HO} (h : scrH K a vs ns b = some u) : b = a ∧ K.lookup a = none ∧ u = .frz { cls := .type "list", data := .seq vs.toArray } (.lst (ns.map V.int)) := by
  unfold scrH at h
  by_cases c : b = a ∧ (K.lookup a).isNone = true
  · rw [if_pos c] at h
    exact ⟨c.1, Option.isNone_iff_eq_none.mp c.2, (Option.some.inj h).symm⟩
  · rw [if_neg c] at h
    cases h
theorem scrH_free {b : Addr} (h : b = a → K.lookup a ≠ none) : scrH K a vs ns b = none := by
  cases e : scrH K a vs ns b with
  | none => rfl
  | some u => exact absurd (scrH_at e).2.1 (h (scrH_at e).1)
theorem callG (kin : K.In s.heap) (gns : s.heap.Ns mainGlobals mg) (bns : s.heap.Ns builtinsNs mb) (hbb : ∀ y : Str, y ≠ "__name__" → mb y = bootBuiltins y) (nol : s.heap.NoLimit) (gen0 : s.gens = #[])
    (ha : s.heap.get? a = some { cls := .type "list", data := .seq vs.toArray }) (hv : IntsAre vs ns) (hl : ns.length ≤ sizeLine) (hr : Room k callerA)
    (F : ∀ b0 : Heap, K.In b0 → b0.Ns mainGlobals mg → FnG P w K mg b0 CX0 k fa fd [x] sp) (hb : ∀ (s : Shared) (u : Value), BindsTo s fd ⟨[u], []⟩ [(x, u)])
    (hsp : ∀ H : Hp, Only H → SqL K H a (ns.map V.int) → sp [.ref a] H (fun v _ => v = .bl true) fun _ _ _ => False) :
    codeAny (model P w) callerA (.call (.ref fa) ⟨[.ref a], []⟩) (fun r z => r = .ok (.ret (.bool true)) ∧ OldK s.heap z.heap ∧ z.os = s.os ∧ AllBare z.gens) s := by
  have hvals := vals_ints hv
  have hlen := hv.length
  have hOnly : Only (scrH K a vs ns) := fun b => by
    cases e : scrH K a vs ns b with
    | none => exact .inl rfl
    | some u =>
      obtain ⟨_, _, rfl⟩ := scrH_at e
      exact .inr ⟨_, _, rfl⟩
  have hSq : SqL K (scrH K a vs ns) a (ns.map V.int) := by
    cases e : K.lookup a with
    | none => exact .inl (.inr ⟨_, if_pos ⟨rfl, by rw [e]; rfl⟩⟩)
    | some o =>
      have h1 := kin a o e
      rw [ha] at h1
      cases h1
      exact .inr ⟨_, _, _, e, rfl, rfl, rfl, by rw [List.size_toArray, hlen]; exact hl, by rw [List.toList_toArray]; exact hvals⟩
  have hH : HOk P w (scrH K a vs ns) s.heap := fun b u e => by
    obtain ⟨rfl, _, rfl⟩ := scrH_at e
    exact ⟨ha, by rw [List.length_map]; exact hl, vs, _, hvals, ha⟩
  have nsB : ∀ {b : Addr} {m : Str → Option Value}, s.heap.Ns b m → (hidT s.heap (scrH K a vs ns)).Ns b m := fun {b m} h => by
    obtain ⟨o, es, ep, h1, h2, h3⟩ := h
    refine ⟨o, es, ep, hidT_get h1 (scrH_free fun e _ => ?_), h2, h3⟩
    subst e
    rw [ha] at h1
    cases h1
    cases h2
  have kB : K.In (hidT s.heap (scrH K a vs ns)) := fun b o e => hidT_get (kin b o e) (scrH_free fun z y => by
    subst z
    rw [y] at e
    cases e)
  obtain ⟨mc, nol1, nol2⟩ := nol
  have env : Env0 P w K mg (hidT s.heap (scrH K a vs ns)) callerA [] s (scrH K a vs ns) :=
    { frames := rfl, mod := ⟨kB, nsB gns, ⟨mb, nsB bns, hbb⟩, ⟨mc, nsB nol1, nol2⟩⟩, bs := fun b o e => of_hidT e, bsz := Nat.le_of_eq (hidT_size _ _), funs := trivial, frf := (fun b h => nomatch h), hok := hH, bare := .of_eq gen0 }
  have run := (F _ kB (nsB gns)).go (A := callerA) (us := [.ref a]) (vs := [.ref a]) rfl hr env (hb s (.ref a)) (.cons rfl .nil) (hsp _ hOnly hSq)
  refine codeAny_mono run fun r z hz => ?_
  match r, hz with
  | .ok (.ret u), ⟨v, H1, hos, hbare, hun, hok1, hrel, hq⟩ =>
    subst hq
    cases hrel
    refine ⟨rfl, OldK.of_keep fun b o e => ?_, hos, hbare⟩
    cases c : scrH K a vs ns b with
    | none => exact hun.keep b o e c (fun y => nomatch y) (fun y => nomatch y)
    | some u =>
      obtain ⟨rfl, _, rfl⟩ := scrH_at c
      have h1 := (hok1 b _ (hun.frzs b _ _ c)).1
      rw [ha] at e
      cases e
      exact h1
  | .ok .next, y => exact False.elim y
  | .ok .brk, y => exact False.elim y
  | .ok .cont, y => exact False.elim y
  | .error e, y => exact False.elim y
end
/-- the law's end -/
theorem walk_ofG {l : PySem.W.OpenLaw} {n k : Nat} {q : Program} {loose : List Str} {XP : (Str → Option Value) → Heap → Prop} {YP : World → Heap → Prop} {d : DefRec} {x : Str}
    (hn : l.most = some n) (hn2 : n ≤ sizeLine) (hdf : d.params.defaults = []) (hr : Room k callerA)
    (F : ∀ (w : World) (mg : Str → Option Value) (fa : Addr) (h : Heap), YP w h → h.Ns mainGlobals mg → mg d.name = some (.ref fa) →
      ∃ (K : PySem.W.Frag) (fd : FuncData) (sp : Sp), K.In h ∧ (∀ (s : Shared) (u : Value), BindsTo s fd ⟨[u], []⟩ [(x, u)]) ∧
        (∀ (H : Hp) (a : Addr) (ns : List Int), ns.length ≤ n → Only H → SqL K H a (ns.map V.int) → sp [.ref a] H (fun v _ => v = .bl true) fun _ _ _ => False) ∧
        ∀ b0 : Heap, K.In b0 → b0.Ns mainGlobals mg → FnG l.prog w K mg b0 CX0 k fa fd [x] sp) :
    PySem.W.WalkO q loose XP YP l.row.toRowW d [] (fun f vs => PySem.call f vs) := by
  refine Att.attach_call hn hdf ?_
  intro w s₀ s₁ mg mb fa o pm cd doc a vs ns G Y _ _ _ hmg hobj hints hlen hg
  obtain ⟨K, fd, sp, kin, hb, hsp, hF⟩ := F w mg fa _ Y G.T.g hmg
  exact callG kin G.T.g G.T.b G.T.builtins G.T.nolimit hg hobj hints (by omega) hr hF hb fun H hO hS => hsp H a ns hlen hO hS
theorem walk_ofGK {l : PySem.W.OpenLaw} {n k : Nat} {q : Program} {loose : List Str} {XP : (Str → Option Value) → Heap → Prop} {YP : World → Heap → Prop} {d : DefRec} {K : Params → PySem.W.Frag} {sp : World → Sp} {x : Str}
    (hn : l.most = some n) (hn2 : n ≤ sizeLine) (hdf : d.params.defaults = []) (hr : Room k callerA) (hY : ∀ (w : World) (h : Heap), YP w h → (K w.params).In h)
    (F : ∀ (w : World) (mg : Str → Option Value) (fa : Addr) (h : Heap), (K w.params).In h → h.Ns mainGlobals mg → mg d.name = some (.ref fa) →
      ∃ fd : FuncData, (∀ (s : Shared) (u : Value), BindsTo s fd ⟨[u], []⟩ [(x, u)]) ∧ ∀ b0 : Heap, (K w.params).In b0 → b0.Ns mainGlobals mg → FnG l.prog w (K w.params) mg b0 CX0 k fa fd [x] (sp w))
    (hsp : ∀ (w : World) (H : Hp) (a : Addr) (ns : List Int), ns.length ≤ n → Only H → SqL (K w.params) H a (ns.map V.int) → sp w [.ref a] H (fun v _ => v = .bl true) fun _ _ _ => False) :
    PySem.W.WalkO q loose XP YP l.row.toRowW d [] (fun f vs => PySem.call f vs) :=
  walk_ofG hn hn2 hdf hr fun w mg fa h Y G hmg => by
    obtain ⟨fd, hb, hF⟩ := F w mg fa h (hY w h Y) G hmg
    exact ⟨K w.params, fd, sp w, hY w h Y, hb, hsp w, hF⟩
/-! repr of data -/
def rReprD (K : PySem.W.Frag) : List V → Hp → VK → Prop := fun xs H Q => ∃ (a : Addr) (d : PyData), xs = [.ref a] ∧ Dp K H (.ref a) d ∧ d.showable = true ∧ d.hasDict = false ∧ d.depth ≤ 60 ∧ d.shown.length ≤ sizeLine ∧ Q (.str d.shown) H
theorem call_reprD {X : Cx} {K : PySem.W.Frag} {k : Nat} (hK : X.K = K) (hg : X.A.guards = some []) (hr : Room k X.A) : CallR X (.builtin "repr") (rReprD K) := by
  subst hK
  intro pins s σ H xs us Q I r h
  obtain ⟨a, d, rfl, hd, h1, h2, h3, h4, q⟩ := h
  obtain ⟨u, rfl, rv⟩ := vals1 r
  obtain ⟨as, hrd⟩ := Dp.reads I d (.ref a) u hd rv
  cases rv
  have hu := hr.units
  exact repr_of_reads' hrd h1 (fun y => by rw [h2] at y; cases y) hg (by omega) (fun b o e => e) (fun h' u tk hk => ⟨.str d.shown, H, I.kept hk, ⟨u, rfl⟩, q⟩) h4
theorem g_reprD {K : PySem.W.Frag} {H : Hp} {Q : VK} {a : Addr} {d : PyData} (hd : Dp K H (.ref a) d) (h1 : d.showable = true) (h2 : d.hasDict = false) (h3 : d.depth ≤ 60) (h4 : d.shown.length ≤ sizeLine) (q : Q (.str d.shown) H) : rReprD K [.ref a] H Q := ⟨a, d, rfl, hd, h1, h2, h3, h4, q⟩
/-! ### whole records: plain law -/
abbrev Rcd : Type := Int × List Nat
abbrev Rw : Type := List Nat × Rcd × Bool
def follB (o : Option Int) (n : Int) : Bool := match o with
  | none => true
  | some m => decide (n = m + 1)
def wholeF : Option Int → List (List Nat) → List Rcd
  | _, [] => []
  | o, l :: ls => match readRec l with
    | none => []
    | some r => if follB o r.1 = true then r :: wholeF (some r.1) ls else []
def lastN (rs : List Rcd) : Option Int := rs.getLast?.map (·.1)
theorem lastN_snoc {rs : List Rcd} {r : Rcd} : lastN (rs ++ [r]) = some r.1 := by unfold lastN; rw [List.getLast?_append]; rfl
def textR (rs : List Rw) : List Nat := (rs.map fun r => r.1 ++ [10]).flatten
def flatN (ls : List (List Nat)) : List Nat := (ls.map fun l => l ++ [10]).flatten
def expF (len : Nat) : Option Int → Nat → List Rw → List Rcd
  | _, _, [] => []
  | o, sz, r :: rs => if (r.2.2 && follB o r.2.1.1 && decide (sz + r.1.length + 1 ≤ len)) = true then r.2.1 :: expF len (some r.2.1.1) (sz + r.1.length + 1) rs else []
/-- a row of the law: its line says its record, if it is right, else nothing -/
def RwOk (r : Rw) : Prop := readRec r.1 = (if r.2.2 = true then some r.2.1 else none) ∧ 10 ∉ r.1
theorem textR_cons {r : Rw} {rs : List Rw} : textR (r :: rs) = r.1 ++ 10 :: textR rs := by
  unfold textR
  rw [List.map_cons, List.flatten_cons, List.append_assoc]
  rfl
theorem flatN_cons {l : List Nat} {ls : List (List Nat)} : flatN (l :: ls) = l ++ 10 :: flatN ls := by
  unfold flatN
  rw [List.map_cons, List.flatten_cons, List.append_assoc]
  rfl
theorem cut_whole : ∀ (rs : List Rw) (o : Option Int) (sz m : Nat), (∀ r ∈ rs, RwOk r) → m ≤ (textR rs).length → ∃ ls rest, (textR rs).take m = flatN ls ++ rest ∧ 10 ∉ rest ∧ (∀ l ∈ ls, 10 ∉ l) ∧ wholeF o ls = expF (sz + m) o sz rs
  | [], o, sz, m, _, hm => ⟨[], [], by rw [show textR [] = [] from rfl, List.take_nil]; rfl, (fun h => nomatch h), (fun _ h => nomatch h), rfl⟩
  | r :: rs, o, sz, m, hr, hm => by
    obtain ⟨h1, h2⟩ := hr r List.mem_cons_self
    rw [textR_cons, List.length_append, List.length_cons] at hm
    rw [textR_cons]
    by_cases hlt : r.1.length + 1 ≤ m
    · obtain ⟨ls, rest, e, k1, k2, k3⟩ := cut_whole rs (some r.2.1.1) (sz + r.1.length + 1) (m - (r.1.length + 1)) (fun x hx => hr x (List.mem_cons_of_mem _ hx)) (by omega)
      have e1 : sz + r.1.length + 1 + (m - (r.1.length + 1)) = sz + m := by omega
      rw [e1] at k3
      refine ⟨r.1 :: ls, rest, ?_, k1, fun l hl => ?_, ?_⟩
      · rw [flatN_cons, List.take_append, List.take_of_length_le (by omega), show m - r.1.length = (m - (r.1.length + 1)) + 1 by omega, List.take_succ_cons, e, List.append_assoc]
        rfl
      · rcases List.mem_cons.mp hl with z | z
        · rw [z]; exact h2
        · exact k2 l z
      · show (match readRec r.1 with
          | none => []
          | some r => if follB o r.1 = true then r :: wholeF (some r.1) ls else []) = if (r.2.2 && follB o r.2.1.1 && decide (sz + r.1.length + 1 ≤ sz + m)) = true then _ else _
        rw [h1, decide_eq_true (show sz + r.1.length + 1 ≤ sz + m by omega), Bool.and_true]
        cases hb : r.2.2 with
        | false => rfl
        | true =>
          show (if follB o r.2.1.1 = true then r.2.1 :: wholeF (some r.2.1.1) ls else []) = if (true && follB o r.2.1.1) = true then _ else _
          rw [Bool.true_and, k3]
    · refine ⟨[], r.1.take m, ?_, fun z => h2 (List.mem_of_mem_take z), (fun _ h => nomatch h), ?_⟩
      · rw [List.take_append_of_le_length (by omega)]
        rfl
      · show [] = if (r.2.2 && follB o r.2.1.1 && decide (sz + r.1.length + 1 ≤ sz + m)) = true then _ else _
        rw [decide_eq_false (show ¬ sz + r.1.length + 1 ≤ sz + m by omega), Bool.and_false]
        rfl
theorem flat_join {ls : List (List Nat)} {rest : List Nat} : joinL [10] (ls ++ [rest]) = flatN ls ++ rest := by
  induction ls with
  | nil => exact (List.nil_append _).symm ▸ rfl
  | cons l ls ih =>
    rw [flatN_cons]
    have : joinL [10] (l :: (ls ++ [rest])) = l ++ [10] ++ joinL [10] (ls ++ [rest]) := by
      cases ls with
      | nil => exact joinL_cons [10] l rest []
      | cons x xs => exact joinL_cons [10] l x (xs ++ [rest])
    show joinL [10] (l :: (ls ++ [rest])) = _
    rw [this, ih, List.append_assoc, List.append_assoc]
    rfl
/-- the lines of a text that are whole -/
def linesT (z : Str) : List (List Nat) := (Txt.split z "\n").dropLast.map tl
theorem lines_flat {z : Str} {ls : List (List Nat)} {rest : List Nat} (e : tl z = flatN ls ++ rest) (h1 : 10 ∉ rest) (h2 : ∀ l ∈ ls, 10 ∉ l) : linesT z = ls := by
  have ez : z = Txt.join "\n" ((ls ++ [rest]).map stxt) := by
    refine ext_tl ?_
    rw [join_eq, tl_join, show tl ("\n" : Str) = [10] by decide +kernel, List.map_map, e, ← flat_join]
    congr 1
    exact (List.map_id _).symm.trans (List.map_congr_left fun x _ => (tl_stxt x).symm)
  unfold linesT
  rw [ez, split_nl (by simp) (fun p hp => by
    obtain ⟨l, hl, rfl⟩ := List.mem_map.mp hp
    rw [tl_stxt]
    rcases List.mem_append.mp hl with z | z
    · exact h2 l z
    · rw [List.mem_singleton.mp z]; exact h1), List.map_append, List.map_singleton, List.dropLast_concat, List.map_map]
  exact (List.map_congr_left fun x _ => tl_stxt x).trans (List.map_id _)
/-- THE LAW -/
theorem whole_law {rs : List Rw} {m : Nat} {z : Str} (hr : ∀ r ∈ rs, RwOk r) (hm : m ≤ (textR rs).length) (hz : tl z = (textR rs).take m) : wholeF none (linesT z) = expF m none 0 rs := by
  obtain ⟨ls, rest, e, k1, k2, k3⟩ := cut_whole rs none 0 m hr hm
  rw [lines_flat (hz.trans e) k1 k2, k3, Nat.zero_add]
open TL NumText
local macro_rules | `(tactic| walk_at "ki") => `(tactic| first
  | exact kit_str_str
  | exact kit_str_int
  | exact kit_str_bool
  | exact kit_str_tuple
  | exact kit_str_list
  | exact kit_str_dict
  | exact kit_int_str
  | exact kit_int_int
  | exact kit_int_bool
  | exact kit_int_tuple
  | exact kit_int_list
  | exact kit_int_dict
  | exact kit_bool_str
  | exact kit_bool_int
  | exact kit_bool_bool
  | exact kit_bool_tuple
  | exact kit_bool_list
  | exact kit_bool_dict
  | exact kit_NoneType_str
  | exact kit_NoneType_int
  | exact kit_NoneType_bool
  | exact kit_NoneType_tuple
  | exact kit_NoneType_list
  | exact kit_NoneType_dict
  | exact kit_tuple_str
  | exact kit_tuple_int
  | exact kit_tuple_bool
  | exact kit_tuple_tuple
  | exact kit_tuple_list
  | exact kit_tuple_dict
  | exact kit_list_str
  | exact kit_list_int
  | exact kit_list_bool
  | exact kit_list_tuple
  | exact kit_list_list
  | exact kit_list_dict)
local macro_rules | `(tactic| walk_at "ex") => `(tactic| first
  | assumption
  | exact Evl.Ex.refl _
  | exact Evl.Ex.new (by assumption)
  | (refine Evl.Ex.trans ?_ (Evl.Ex.new (by assumption)); walk_at "ex")
  | (refine Evl.Ex.trans ?_ (by assumption); walk_at "ex"))
local macro_rules | `(tactic| walk_at "sq") => `(tactic| first
  | assumption
  | exact .inl (.inl (by assumption))
  | exact .inl (.inl upd_same)
  | (apply ex_sqL (Evl.Ex.new (by assumption)); walk_at "sq")
  | (apply ex_sqT (Evl.Ex.new (by assumption)); walk_at "sq")
  | (apply ex_sqL (by assumption); walk_at "sq")
  | (apply ex_sqT (by assumption); walk_at "sq"))
local macro_rules | `(tactic| walk_at "dp") => `(tactic| first
  | exact Dp.int _
  | exact Dp.str _
  | exact Dp.bl _
  | exact Dp.non
  | (refine Dp.tup (by walk_at "sq") ?_; walk_at "dpa")
  | (refine Dp.lst (by walk_at "sq") ?_; walk_at "dpa"))
local macro_rules | `(tactic| walk_at "dpa") => `(tactic| first
  | exact DpAll.nil
  | (refine DpAll.cons (by walk_at "dp") ?_; walk_at "dpa"))
local macro_rules | `(tactic| walk_at "at") => `(tactic| first
  | assumption
  | exact upd_same
  | (apply ex_at (Evl.Ex.new (by assumption)); walk_at "at")
  | (apply ex_at (by assumption); walk_at "at"))
local macro_rules | `(tactic| walk_at "sd") => `(tactic| first
  | decide
  | omega
  | (unfold CDiv; omega)
  | (unfold CMul; omega)
  | (unfold CPow; omega)
  | (simp only [CDiv, CMul, CPow]; omega)
  | (refine fits_of ?_; simp only [List.length_append, List.length_cons, List.length_nil, List.length_map]; omega)
  | exact fits_of (by first | decide | omega | (simp only [List.length_cons, List.length_nil]; omega))
  | exact fits_lt (by first | decide | omega | (simp only [List.length_map]; omega))
  | exact fits_lt (by simp only [List.length_append, List.length_cons, List.length_nil, List.length_map] <;> omega)
  | exact fits_of (by simp only [List.length_append, List.length_cons, List.length_nil, List.length_map] <;> omega)
  | exact log_small (by omega)
  | exact fits_of (of_decide_eq_true rfl)
  | exact fits_of (by simp only [len_app, len_stxt, len_sing]; omega))
local macro_rules | `(tactic| walk_at "g1") => `(tactic| first
  | with_reducible refine g_cons ?_
  | with_reducible refine g_nil ?_
  | ((with_reducible show tVar _ _ _ _); refine g_var rfl ?_)
  | with_reducible refine g_op ?_
  | with_reducible refine g_name ?_
  | with_reducible refine g_c ?_
  | with_reducible refine g_asg ?_
  | with_reducible refine g_seq ?_
  | with_reducible refine g_rI0 ?_
  | ((with_reducible refine g_rI ?h ?_); (case h => walk_at "sd"))
  | with_reducible refine g_next ?_
  | with_reducible refine g_test ?_
  | with_reducible refine g_bl ?_
  | with_reducible refine g_ifS ?_
  | with_reducible refine g_eqI ?_
  | with_reducible refine g_eqS ?_
  | with_reducible refine g_neI ?_
  | with_reducible refine g_neS ?_
  | with_reducible refine g_tB ?_
  | with_reducible refine g_cb ?_
  | with_reducible refine g_call ?_
  | with_reducible refine g_ret ?_
  | with_reducible refine g_drop ?_
  | ((with_reducible show rIxL _ _ _ _ _); refine g_ixL (by walk_at "sq") (by first | exact atI_nat (j := 0) rfl | exact atI_nat (j := 1) rfl | exact atI_nat (j := 2) rfl | exact atI_nat (j := 3) rfl | exact atI_nat (j := 4) rfl | exact at_ints (by omega) (by omega)) ?_)
  | ((with_reducible show rIxT _ _ _ _ _); refine g_ixT (by walk_at "sq") (by first | exact atI_nat (j := 0) rfl | exact atI_nat (j := 1) rfl | exact atI_nat (j := 2) rfl | exact atI_nat (j := 3) rfl | exact atI_nat (j := 4) rfl | exact rfl) ?_)
  | with_reducible refine g_tup ?_
  | ((with_reducible show rLen _ _ _ _); refine g_lenL (by walk_at "sq") ?_)
  | ((with_reducible show rLen _ _ _ _); refine g_lenT (by walk_at "sq") ?_)
  | with_reducible refine g_for ?_
  | with_reducible refine g_lc ?_
  | with_reducible refine g_iList ?_
  | ((with_reducible show rIL _ _ _ _); refine g_atL (by walk_at "sq") ?_)
  | with_reducible refine g_not ?_
  | with_reducible refine g_and ?_
  | with_reducible refine g_or ?_
  | with_reducible refine w_t ?_
  | with_reducible refine w_f ?_
  | with_reducible refine g_bm ?_
  | ((with_reducible refine g_new ?h ?_); (case h => walk_at "sd"); intro _ _)
  | ((with_reducible show tyV _ "list" _ _ ∧ _); refine g_tyL (by walk_at "sq") ?_)
  | ((with_reducible show rAppend _ _ _ _); refine g_app (by walk_at "at") (by walk_at "sd") ?_)
  | with_reducible refine g_intI ?_
  | with_reducible refine g_iRng1 ?_
  | ((with_reducible refine g_rng ?h ?_); (case h => walk_at "sd"))
  | with_reducible refine g_if ?_
  | with_reducible refine g_un ?_
  | with_reducible refine g_isNi ?_
  | with_reducible refine g_isNn ?_
  | with_reducible refine g_isNr ?_
  | with_reducible refine g_isNs ?_
  | with_reducible refine g_isN ?_
  | with_reducible refine g_chain ?_
  | with_reducible refine g_rU ?_
  | with_reducible refine g_andV ?_
  | with_reducible refine g_orV ?_
  | with_reducible refine g_notV ?_
  | with_reducible refine g_lst ?_
  | with_reducible refine g_bm0 ?_
  | with_reducible refine g_m1 ?_
  | with_reducible refine g_m0 ?_
  | with_reducible refine g_sl ?_
  | with_reducible refine g_nop ?_
  | with_reducible refine g_part ?_
  | with_reducible refine g_isI ?_
  | with_reducible refine g_isS ?_
  | with_reducible refine g_intB ?_
  | with_reducible refine g_abs ?_
  | with_reducible refine g_max2 ?_
  | with_reducible refine g_tyS ?_
  | with_reducible refine g_ordS ?_
  | with_reducible refine g_cmpS ?_
  | with_reducible refine g_ninS ?_
  | with_reducible refine g_ntNi ?_
  | with_reducible refine g_ntNn ?_
  | with_reducible refine g_ntNr ?_
  | with_reducible refine g_ntNs ?_
  | with_reducible refine g_notN ?_
  | with_reducible refine g_min2 ?_
  | with_reducible refine g_inS ?_
  | with_reducible refine g_iTup ?_
  | with_reducible refine g_iStr ?_
  | with_reducible refine g_atS ?_
  | with_reducible refine g_iEnum ?_
  | ((with_reducible show rIEn _ _ _ _); refine g_enL (by walk_at "sq") ?_)
  | ((with_reducible refine g_lenS ?h ?_); (case h => walk_at "sd"))
  | ((with_reducible refine g_strI ?h ?_); (case h => walk_at "sd"))
  | ((with_reducible refine g_addS ?h ?_); (case h => walk_at "sd"))
  | ((with_reducible show rIT _ _ _ _); refine g_atT (by walk_at "sq") ?_)
  | ((with_reducible show rSlL _ _ _ _ _ _); refine g_slL (by walk_at "sq") ?_; intro _ _)
  | ((with_reducible refine g_slS ?h ?_); (case h => walk_at "sd"))
  | ((with_reducible show tAug _ _ _ _ _ _); refine g_aug rfl ?_)
  | with_reducible refine g_ipI ?_
  | with_reducible refine g_fmt ?_
  | with_reducible refine g_jsN ?_
  | with_reducible refine g_jsC ?_
  | ((with_reducible refine g_jsS ?h ?_); (case h => walk_at "sd"))
  | ((with_reducible refine g_fmtI ?h ?_); (case h => walk_at "sd"))
  | ((with_reducible refine g_fmtS ?h ?_); (case h => walk_at "sd"))
  | ((with_reducible show rAll _ _ _ _); refine g_allF (by walk_at "sq") ?_)
  | ((with_reducible show gTup _ _ _ _ _ _ _); refine g_gtup2 (by walk_at "sq") ?_)
  | ((with_reducible show rRjust _ _ _ _); refine g_rjust (by first | rfl | decide) (by first | rfl | decide) ?_)
  | ((with_reducible show rSplitMax _ _ _ _); refine g_splitMax (by first | rfl | decide) (by first | decide | omega) (by walk_at "sd") ?_; intro _ _)
  | ((with_reducible show rSplit _ _ _ _); refine g_split (by first | rfl | decide) (by walk_at "sd") ?_; intro _ _)
  | ((with_reducible show wipe _ _ = wipe _ _ ∧ _); refine ⟨rfl, ?_⟩)
  | ((with_reducible show _ ≤ sizeLine ∧ _); refine ⟨by walk_at "sd", ?_⟩)
  | ((with_reducible show rIxS _ _ _ _); refine g_ixS (by walk_at "sd") (by exact at_codes (by omega) (by first | omega | (rw [← len_tl]; omega))) ?_)
  | ((with_reducible show rMulS _ _ _ _); refine g_mulS (by first | decide | omega) (by decide +kernel) ?_)
  | ((with_reducible show rListOf _ _ _ _); refine g_listL (by walk_at "sq") ?_; intro _ _)
  | ((with_reducible show rListOf _ _ _ _); refine g_listT (by walk_at "sq") ?_; intro _ _)
  | ((with_reducible show tDNewK _ _ _); refine g_dnew ?_; intro _ _)
  | with_reducible refine g_raise ?_
  | with_reducible refine g_callS ?_
  | ((with_reducible show rRaise _ _ _ _ _ _); refine g_raise1 ?_; intro _ _)
  | with_reducible refine g_xf ?_
  | ((with_reducible show rXf _ _ _ _ _ _ _ _); refine g_xf1 (by walk_at "at") (by rfl) ?_)
  | ((with_reducible show rIsED _ _ _ _ _ _ _ _); refine g_isED (by assumption) (by walk_at "at") ?_)
  | ((with_reducible show rCat _ _ _ _); refine g_cat (by walk_at "at") (by walk_at "at") (by first | omega | (refine fits_of ?_; simp only [List.length_append, List.length_cons, List.length_nil, List.length_map, List.length_take, List.length_drop]; omega)) ?_; intro _ _)
  | with_reducible refine g_repl1 ?_
  | with_reducible refine g_din ?_
  | with_reducible refine g_dnin ?_
  | with_reducible refine g_dput ?_
  | ((with_reducible show rDIn _ _ _ _); refine g_dinS (by walk_at "at") ?_)
  | ((with_reducible show rDNin _ _ _ _); refine g_dninS (by walk_at "at") ?_)
  | ((with_reducible show rDPut _ _ _ _ _ _); refine g_dputS (by walk_at "at") (by walk_at "sd") ?_)
  | with_reducible refine g_eqB ?_
  | with_reducible refine g_neB ?_
  | ((with_reducible show rInst _ _ _ _); refine g_instS (by walk_at "ki") ?_)
  | ((with_reducible show rInst _ _ _ _); refine g_instI (by walk_at "ki") ?_)
  | ((with_reducible show rInst _ _ _ _); refine g_instB (by walk_at "ki") ?_)
  | ((with_reducible show rInst _ _ _ _); refine g_instN (by walk_at "ki") ?_)
  | ((with_reducible show rInst _ _ _ _); refine g_instT (by walk_at "sq") (by walk_at "ki") ?_)
  | ((with_reducible show rInst _ _ _ _); refine g_instL (by walk_at "sq") (by walk_at "ki") ?_)
  | ((with_reducible show rSlT _ _ none (some 1) _ _); refine g_slT1 (by walk_at "sq") ?_; intro _ _)
  | ((with_reducible show rSlT _ _ (some 1) none _ _); refine g_slTt (by walk_at "sq") ?_; intro _ _)
  | ((with_reducible show if (!true) = true then _ else _); refine w_no rfl ?_)
  | ((with_reducible show if (!false) = true then _ else _); refine w_yes rfl ?_))
local macro_rules | `(tactic| walk_at "go") => `(tactic| repeat walk_at "g1")
def topS (i : Nat) : Stmt := PySem.Challenge.pw_limitweave_k39_whole_records.main.body.getD i (.Pass ⟨0, 0, 0, 0⟩)
abbrev s_read_number : Stmt := topS 2
abbrev s_is_plain : Stmt := topS 7
abbrev s_check_digits : Stmt := topS 8
abbrev s_record_line : Stmt := topS 9
abbrev s_record_text : Stmt := topS 10
abbrev s_read_record : Stmt := topS 11
abbrev s_whole_records : Stmt := topS 12
abbrev s_whole_length : Stmt := topS 13
abbrev s__law_row : Stmt := topS 15
abbrev s__law_numbers : Stmt := topS 16
abbrev s__law_three : Stmt := topS 17
abbrev s__law_digits : Stmt := topS 18
abbrev s__law_line : Stmt := topS 19
abbrev s__law_sign : Stmt := topS 21
abbrev s__law_drawn : Stmt := topS 22
abbrev s__law_lines : Stmt := topS 23
abbrev s_law : Stmt := topS 24
theorem sc_read_number : FnScope ["part", "digits", "sign"] ["part", "digits"] (defScope s_read_number) := ⟨rfl, rfl, rfl, by decide +kernel, rfl, by decide +kernel, by decide +kernel⟩
theorem sc_is_plain : FnScope ["text", "sign"] ["text"] (defScope s_is_plain) := ⟨rfl, rfl, rfl, by decide +kernel, rfl, by decide +kernel, by decide +kernel⟩
theorem sc_check_digits : FnScope ["text", "plain", "placed", "place", "sign"] ["text"] (defScope s_check_digits) := ⟨rfl, rfl, rfl, by decide +kernel, rfl, by decide +kernel, by decide +kernel⟩
theorem sc_record_line : FnScope ["number", "body", "head"] ["number", "body"] (defScope s_record_line) := ⟨rfl, rfl, rfl, by decide +kernel, rfl, by decide +kernel, by decide +kernel⟩
theorem sc_record_text : FnScope ["number", "body"] ["number", "body"] (defScope s_record_text) := ⟨rfl, rfl, rfl, by decide +kernel, rfl, by decide +kernel, by decide +kernel⟩
theorem sc_read_record : FnScope ["line", "head", "parts", "size", "number"] ["line"] (defScope s_read_record) := ⟨rfl, rfl, rfl, by decide +kernel, rfl, by decide +kernel, by decide +kernel⟩
theorem sc_whole_records : FnScope ["text", "records", "line", "record"] ["text"] (defScope s_whole_records) := ⟨rfl, rfl, rfl, by decide +kernel, rfl, by decide +kernel, by decide +kernel⟩
theorem sc_whole_length : FnScope ["text", "number", "body"] ["text"] (defScope s_whole_length) := ⟨rfl, rfl, rfl, by decide +kernel, rfl, by decide +kernel, by decide +kernel⟩
theorem sc__law_row : FnScope ["_law_cell", "_law_many", "_law_row_here", "_law_rest", "_law_state", "_law_k"] ["_law_cell", "_law_many"] (defScope s__law_row) := ⟨rfl, rfl, rfl, by decide +kernel, rfl, by decide +kernel, by decide +kernel⟩
theorem sc__law_numbers : FnScope ["_law_script", "_law_many", "_law_cells", "_law_each", "_law_numbers_here", "_law_cell", "_law_number"] ["_law_script", "_law_many"] (defScope s__law_numbers) := ⟨rfl, rfl, rfl, by decide +kernel, rfl, by decide +kernel, by decide +kernel⟩
theorem sc__law_three : FnScope ["_law_number"] ["_law_number"] (defScope s__law_three) := ⟨rfl, rfl, rfl, by decide +kernel, rfl, by decide +kernel, by decide +kernel⟩
theorem sc__law_digits : FnScope ["_law_text_here", "_law_plain", "_law_placed", "_law_k"] ["_law_text_here"] (defScope s__law_digits) := ⟨rfl, rfl, rfl, by decide +kernel, rfl, by decide +kernel, by decide +kernel⟩
theorem sc__law_line : FnScope ["_law_number", "_law_body", "_law_head"] ["_law_number", "_law_body"] (defScope s__law_line) := ⟨rfl, rfl, rfl, by decide +kernel, rfl, by decide +kernel, by decide +kernel⟩
theorem sc__law_sign : FnScope ["_law_number", "_law_signs"] ["_law_number"] (defScope s__law_sign) := ⟨rfl, rfl, rfl, by decide +kernel, rfl, by decide +kernel, by decide +kernel⟩
theorem sc__law_drawn : FnScope ["_law_numbers_here", "_law_at", "_law_number", "_law_size", "_law_body", "_law_k"] ["_law_numbers_here", "_law_at", "_law_number"] (defScope s__law_drawn) := ⟨rfl, rfl, rfl, by decide +kernel, rfl, by decide +kernel, by decide +kernel⟩
theorem sc__law_lines : FnScope ["_law_numbers_here", "_law_number", "_law_found", "_law_k", "_law_record", "_law_line_here", "_law_is_right", "_law_spoilt"] ["_law_numbers_here"] (defScope s__law_lines) := ⟨rfl, rfl, rfl, by decide +kernel, rfl, by decide +kernel, by decide +kernel⟩
theorem sc_law : FnScope ["_law_script", "_law_numbers_here", "_law_lines_here", "_law_text_here", "_law_line_here", "_law_record", "_law_is_right", "_law_expected", "_law_size", "_law_follows", "_law_actual"] ["_law_script"] (defScope s_law) := ⟨rfl, rfl, rfl, by decide +kernel, rfl, by decide +kernel, by decide +kernel⟩
structure Ads where
  (f_read_number f_is_plain f_check_digits f_record_line f_record_text f_read_record f_whole_records f_whole_length f__law_row f__law_numbers f__law_three f__law_digits f__law_line f__law_sign f__law_drawn f__law_lines f_law : Addr)
  (d_read_number d_is_plain d_check_digits d_record_line d_record_text d_read_record d_whole_records d_whole_length d__law_row d__law_numbers d__law_three d__law_digits d__law_line d__law_sign d__law_drawn d__law_lines d_law : FuncData)
structure Txt (P : Program) (K : PySem.W.Frag) (mg : Str → Option Value) (a : Ads) : Prop where
  F_read_number : Fun K "read_number" "read_number" s_read_number a.f_read_number a.d_read_number
  g_read_number : mg "read_number" = some (.ref a.f_read_number)
  b_read_number : Binds K a.d_read_number ["part", "digits"] []
  F_is_plain : Fun K "is_plain" "is_plain" s_is_plain a.f_is_plain a.d_is_plain
  g_is_plain : mg "is_plain" = some (.ref a.f_is_plain)
  b_is_plain : Binds K a.d_is_plain ["text"] []
  F_check_digits : Fun K "check_digits" "check_digits" s_check_digits a.f_check_digits a.d_check_digits
  g_check_digits : mg "check_digits" = some (.ref a.f_check_digits)
  b_check_digits : Binds K a.d_check_digits ["text"] []
  F_record_line : Fun K "record_line" "record_line" s_record_line a.f_record_line a.d_record_line
  g_record_line : mg "record_line" = some (.ref a.f_record_line)
  b_record_line : Binds K a.d_record_line ["number", "body"] []
  F_record_text : Fun K "record_text" "record_text" s_record_text a.f_record_text a.d_record_text
  g_record_text : mg "record_text" = some (.ref a.f_record_text)
  b_record_text : Binds K a.d_record_text ["number", "body"] []
  F_read_record : Fun K "read_record" "read_record" s_read_record a.f_read_record a.d_read_record
  g_read_record : mg "read_record" = some (.ref a.f_read_record)
  b_read_record : Binds K a.d_read_record ["line"] []
  F_whole_records : Fun K "whole_records" "whole_records" s_whole_records a.f_whole_records a.d_whole_records
  g_whole_records : mg "whole_records" = some (.ref a.f_whole_records)
  b_whole_records : Binds K a.d_whole_records ["text"] []
  F_whole_length : Fun K "whole_length" "whole_length" s_whole_length a.f_whole_length a.d_whole_length
  g_whole_length : mg "whole_length" = some (.ref a.f_whole_length)
  b_whole_length : Binds K a.d_whole_length ["text"] []
  F__law_row : Fun K "_law_row" "_law_row" s__law_row a.f__law_row a.d__law_row
  g__law_row : mg "_law_row" = some (.ref a.f__law_row)
  b__law_row : Binds K a.d__law_row ["_law_cell", "_law_many"] []
  F__law_numbers : Fun K "_law_numbers" "_law_numbers" s__law_numbers a.f__law_numbers a.d__law_numbers
  g__law_numbers : mg "_law_numbers" = some (.ref a.f__law_numbers)
  b__law_numbers : Binds K a.d__law_numbers ["_law_script", "_law_many"] []
  F__law_three : Fun K "_law_three" "_law_three" s__law_three a.f__law_three a.d__law_three
  g__law_three : mg "_law_three" = some (.ref a.f__law_three)
  b__law_three : Binds K a.d__law_three ["_law_number"] []
  F__law_digits : Fun K "_law_digits" "_law_digits" s__law_digits a.f__law_digits a.d__law_digits
  g__law_digits : mg "_law_digits" = some (.ref a.f__law_digits)
  b__law_digits : Binds K a.d__law_digits ["_law_text_here"] []
  F__law_line : Fun K "_law_line" "_law_line" s__law_line a.f__law_line a.d__law_line
  g__law_line : mg "_law_line" = some (.ref a.f__law_line)
  b__law_line : Binds K a.d__law_line ["_law_number", "_law_body"] []
  F__law_sign : Fun K "_law_sign" "_law_sign" s__law_sign a.f__law_sign a.d__law_sign
  g__law_sign : mg "_law_sign" = some (.ref a.f__law_sign)
  b__law_sign : Binds K a.d__law_sign ["_law_number"] []
  F__law_drawn : Fun K "_law_drawn" "_law_drawn" s__law_drawn a.f__law_drawn a.d__law_drawn
  g__law_drawn : mg "_law_drawn" = some (.ref a.f__law_drawn)
  b__law_drawn : Binds K a.d__law_drawn ["_law_numbers_here", "_law_at", "_law_number"] []
  F__law_lines : Fun K "_law_lines" "_law_lines" s__law_lines a.f__law_lines a.d__law_lines
  g__law_lines : mg "_law_lines" = some (.ref a.f__law_lines)
  b__law_lines : Binds K a.d__law_lines ["_law_numbers_here"] []
  F_law : Fun K "law" "law" s_law a.f_law a.d_law
  g_law : mg "law" = some (.ref a.f_law)
  b_law : Binds K a.d_law ["_law_script"] []
  z_abs : mg "abs" = none
  z_all : mg "all" = none
  z_bool : mg "bool" = none
  z_enumerate : mg "enumerate" = none
  z_int : mg "int" = none
  z_isinstance : mg "isinstance" = none
  z_len : mg "len" = none
  z_max : mg "max" = none
  z_ord : mg "ord" = none
  z_range : mg "range" = none
  z_repr : mg "repr" = none
  z_str : mg "str" = none
  z_sum : mg "sum" = none
  c_DIGITS : ∃ u, mg "DIGITS" = some u ∧ RelV (.str "0123456789") u
  c_PRIME : ∃ u, mg "PRIME" = some u ∧ RelV (.int 997) u
  c_MOST_BODY : ∃ u, mg "MOST_BODY" = some u ∧ RelV (.int 700) u
  c_CHECK_LENGTH : ∃ u, mg "CHECK_LENGTH" = some u ∧ RelV (.int 7) u
def In9 (ns : List Int) : Prop := ∀ n ∈ ns, 0 ≤ n ∧ n < 1009
theorem In9.nil : In9 [] := fun _ h => nomatch h
theorem In9.snoc {ns : List Int} {n : Int} (h : In9 ns) (h0 : 0 ≤ n) (h1 : n < 1009) : In9 (ns ++ [n]) := fun m hm => by
  rcases List.mem_append.mp hm with z | z
  · exact h m z
  · rw [List.mem_singleton.mp z]; exact ⟨h0, h1⟩
theorem In9.at {ns : List Int} (h : In9 ns) (i : Nat) (hi : i < ns.length) : 0 ≤ ns.getD i 0 ∧ ns.getD i 0 < 1009 := by
  have e : ns.getD i 0 = ns[i] := by rw [List.getD_eq_getElem?_getD, List.getElem?_eq_getElem hi]; rfl
  rw [e]
  exact h _ (List.getElem_mem hi)
theorem map_snoc {ns : List Int} {n : Int} : ns.map V.int ++ [V.int n] = (ns ++ [n]).map V.int := by rw [List.map_append]; rfl
def sp__law_row (K : PySem.W.Frag) : Sp := fun vs H Q _ => ∃ (c m : Int), vs = [.int c, .int m] ∧ 0 ≤ m ∧ m ≤ 10000 ∧
  ∀ p H' ns, H p = none → Ex H H' → H' p = some (.lst (ns.map V.int)) → (ns.length : Int) = m → In9 ns → Q (.ref p) H'
def sp__law_numbers (K : PySem.W.Frag) : Sp := fun vs H Q _ => ∃ (l : Addr) (xs : List Int) (m : Int), vs = [.ref l, .int m] ∧ SqL K H l (xs.map V.int) ∧ xs.length ≤ 63 ∧ 0 ≤ m ∧ m ≤ 9000 ∧
  ∀ p H' ns, H p = none → Ex H H' → H' p = some (.lst (ns.map V.int)) → (ns.length : Int) = m → In9 ns → Q (.ref p) H'
def oI : Option Int → V
  | none => .non
  | some n => .int n
def sp_read_number (K : PySem.W.Frag) : Sp := fun vs H Q _ => ∃ (z : Str) (k : Int), vs = [.str z, .int k] ∧ z.length ≤ 100000 ∧ k ≤ 600 ∧ ∀ H', Ex H H' → Q (oI (numOf k (tl z))) H'
def sp_is_plain (K : PySem.W.Frag) : Sp := fun vs H Q _ => ∃ z : Str, vs = [.str z] ∧ z.length ≤ 100000 ∧ ∀ H', Ex H H' → Q (.bl (plainL (tl z))) H'
def sp_check_digits (K : PySem.W.Frag) : Sp := fun vs H Q _ => ∃ z : Str, vs = [.str z] ∧ z.length ≤ 100000 ∧ ∀ H', Ex H H' → Q (.str (stxt (chk (tl z)))) H'
def sp_record_line (K : PySem.W.Frag) : Sp := fun vs H Q _ => ∃ (n : Int) (z : Str), vs = [.int n, .str z] ∧ 0 ≤ n ∧ n < 1000000 ∧ z.length ≤ 900 ∧ ∀ H', Ex H H' → Q (.str (stxt (lineL n (tl z)))) H'
def sp_read_record (K : PySem.W.Frag) : Sp := fun vs H Q _ => ∃ z : Str, vs = [.str z] ∧ z.length ≤ 100000 ∧ (readRec (tl z) = none → ∀ H', Ex H H' → Q .non H') ∧
  ∀ n c, readRec (tl z) = some (n, c) → ∀ p H', H p = none → Ex H H' → H' p = some (.tup [.int n, .str (stxt c)]) → Q (.ref p) H'
theorem S1_snoc : ∀ (l : List Nat) (c : Nat), S1 (l ++ [c]) = S1 l + c
  | [], c => by show (c : Int) + 0 = 0 + c; omega
  | a :: r, c => by
    show (a : Int) + S1 (r ++ [c]) = (a : Int) + S1 r + c
    rw [S1_snoc r c]; omega
theorem S2_snoc : ∀ (k : Int) (l : List Nat) (c : Nat), S2 k (l ++ [c]) = S2 k l + (k + l.length) * c
  | k, [], c => by
    show k * (c : Int) + 0 = 0 + (k + ((0 : Nat) : Int)) * c
    rw [show k + ((0 : Nat) : Int) = k by simp]; omega
  | k, a :: r, c => by
    show k * (a : Int) + S2 (k + 1) (r ++ [c]) = k * (a : Int) + S2 (k + 1) r + (k + ((r.length + 1 : Nat) : Int)) * c
    rw [S2_snoc (k + 1) r c, show k + ((r.length + 1 : Nat) : Int) = k + 1 + (r.length : Int) by omega]; omega
theorem rjust3 {i : Int} (h0 : 0 ≤ i) (h1 : i < 1000) : Txt.rjustF (toString i : Str) 3 (("0" : Str).cps.getD 0 0) = stxt (three i.toNat) := by
  have e0 : ("0" : Str).cps.getD 0 0 = 48 := by decide +kernel
  have et : tl (toString i : Str) = numL i.toNat := tl_num' h0
  have el : (toString i : Str).length = (numL i.toNat).length := by rw [len_tl, et]
  rw [e0]
  unfold Txt.rjustF
  by_cases h : (3 : Int) ≤ ((toString i : Str).length : Int)
  · rw [if_pos h]
    refine ext_tl ?_
    rw [et, tl_stxt]
    unfold three
    rw [show 3 - (numL i.toNat).length = 0 by omega]
    rfl
  · rw [if_neg h]
    refine ext_tl ?_
    show (Array.replicate _ 48 ++ (toString i : Str).cps ++ Array.replicate 0 48).toList = _
    rw [Array.toList_append, Array.toList_append, Array.toList_replicate, Array.toList_replicate, show (toString i : Str).cps.toList = numL i.toNat from et, el]
    show _ = three i.toNat
    unfold three
    simp
theorem g_iEnumStr {σ : L2.St} {H : Hp} {ta : TA} {R : It → Hp → Prop} (q : ta σ H fun vs H1 => ∃ (x : Str) (k : Int), vs = [.str x, .int k] ∧ (-(2 ^ 63) ≤ k ∧ k < 2 ^ 63) ∧ R (Itse x k) H1) : iEnumStr ta σ H R := q
theorem g_atE {P : Str → Int → Prop} {z : Str} {k : Int} (h : -(2 ^ 63) ≤ k ∧ k < 2 ^ 63) (q : P z k) : ∃ (x : Str) (j : Int), ([V.str z, V.int k] : List V) = [.str x, .int j] ∧ (-(2 ^ 63) ≤ j ∧ j < 2 ^ 63) ∧ P x j := ⟨z, k, rfl, h, q⟩
theorem le_sp (c : Nat) : (!decide (([c] : List Nat) < (" " : Str).cps.toList)) = decide (32 ≤ c) := by
  rw [show (" " : Str).cps.toList = [32] by decide +kernel, lt_sing]
  by_cases h : c < 32 <;> simp [h] <;> omega
theorem le_ti (c : Nat) : (!decide (("~" : Str).cps.toList < ([c] : List Nat))) = decide (c ≤ 126) := by
  rw [show ("~" : Str).cps.toList = [126] by decide +kernel, lt_sing]
  by_cases h : 126 < c <;> simp [h] <;> omega
theorem mem_digits (c : Nat) : c ∈ ("0123456789" : Str).cps.toList ↔ 48 ≤ c ∧ c ≤ 57 := by
  rw [show ("0123456789" : Str).cps.toList = [48, 49, 50, 51, 52, 53, 54, 55, 56, 57] by decide +kernel]
  simp only [List.mem_cons, List.not_mem_nil, or_false]
  omega
def signs : Str := " !\"#$&'()*+,-./0123456789:;<=>?@ABCDEFGHIJKLMNOPQRSTUVWXYZ[\\]^_`abcdefghijklmnopqrstuvwxyz{|}~"
def signOf (n : Int) : Nat := (tl signs).getD (n % 94).toNat 0
theorem signs_all : ∀ k : Fin 94, ∃ c, (tl signs)[k.val]? = some c ∧ 32 ≤ c ∧ c ≤ 126 := by
  have h : ∀ k : Fin 94, ((tl signs)[k.val]?.any fun c => decide (32 ≤ c) && decide (c ≤ 126)) = true := by decide +kernel
  intro k
  have q := h k
  cases e : (tl signs)[k.val]? with
  | none => rw [e] at q; cases q
  | some c =>
    rw [e] at q
    have q2 : (decide (32 ≤ c) && decide (c ≤ 126)) = true := q
    simp at q2
    exact ⟨c, rfl, q2⟩
theorem sign_at (n : Int) : atI (tl signs) (n % 94) = some (signOf n) ∧ 32 ≤ signOf n ∧ signOf n ≤ 126 := by
  have h0 := Int.emod_nonneg n (show (94 : Int) ≠ 0 by decide)
  have h1 := Int.emod_lt_of_pos n (show (0 : Int) < 94 by decide)
  obtain ⟨c, hc, h2, h3⟩ := signs_all ⟨(n % 94).toNat, by omega⟩
  have hc' : (tl signs)[(n % 94).toNat]? = some c := hc
  have e : signOf n = c := by
    unfold signOf
    rw [List.getD_eq_getElem?_getD, hc']
    rfl
  have e2 : ((n % 94).toNat : Int) = n % 94 := by omega
  rw [e, ← e2]
  exact ⟨atI_nat hc', h2, h3⟩
def sp__law_sign (K : PySem.W.Frag) : Sp := fun vs H Q _ => ∃ n : Int, vs = [.int n] ∧ Q (.str ⟨#[signOf n]⟩) H
def sp_record_text (K : PySem.W.Frag) : Sp := fun vs H Q _ => ∃ (n : Int) (z : Str), vs = [.int n, .str z] ∧ 0 ≤ n ∧ n < 1000000 ∧ z.length ≤ 900 ∧ ∀ H', Ex H H' → Q (.str (stxt (lineL n (tl z) ++ [10]))) H'
def sp__law_three (K : PySem.W.Frag) : Sp := fun vs H Q _ => ∃ n : Int, vs = [.int n] ∧ Q (.str (stxt (three (n % 997).toNat))) H
def sp__law_digits (K : PySem.W.Frag) : Sp := fun vs H Q _ => ∃ z : Str, vs = [.str z] ∧ z.length ≤ 100000 ∧ Q (.str (stxt (chk (tl z)))) H
theorem three_cut {i : Int} (h0 : 0 ≤ i) (h1 : i < 1000) : cutS (("00" : Str) ++ (toString i : Str)) (some (-3)) none = stxt (three i.toNat) := by
  refine ext_tl ?_
  have e := tl_cut_fromNeg (("00" : Str) ++ (toString i : Str)) (k := 3) (by decide)
  have e' : tl (cutS (("00" : Str) ++ (toString i : Str)) (some (-3)) none) = _ := e
  have h2 : (numL i.toNat).length ≤ 3 := numL_len (by decide) (by show i.toNat < 1000; omega)
  have h3 := numL_pos i.toNat
  rw [e', tl_append, tl_num' h0, show tl ("00" : Str) = [48, 48] by decide +kernel, tl_stxt, List.length_append]
  unfold three
  generalize numL i.toNat = l at h2 h3 ⊢
  have c3 : l.length = 1 ∨ l.length = 2 ∨ l.length = 3 := by omega
  rcases c3 with h | h | h <;> rw [h] <;> simp [List.drop_append, List.replicate]
theorem headL_len7 {n : Int} {body : List Nat} (h0 : 0 ≤ n) (h1 : n < 10000000) (hb : body.length < 1000) : (headL n body).length ≤ 12 + body.length := by
  have l1 : (numL body.length).length ≤ 3 := numL_len (by decide) (by show body.length < 1000; omega)
  have l2 : (numL n.toNat).length ≤ 7 := numL_len (by decide) (by show n.toNat < 10000000; omega)
  unfold headL
  rw [List.length_append, List.length_cons, List.length_append, List.length_cons]
  omega
def RcAt (K : PySem.W.Frag) (H : Hp) (xs : List (Addr × Rcd)) : Prop := ∀ x ∈ xs, SqT K H x.1 [.int x.2.1, .str (stxt x.2.2)]
def rcV (x : Addr × Rcd) : V := .ref x.1
def RwAt (K : PySem.W.Frag) (H : Hp) (xs : List (Addr × Addr × Rw)) : Prop := ∀ x ∈ xs, SqT K H x.1 [.str (stxt x.2.2.1), .ref x.2.1, .bl x.2.2.2.2] ∧ SqT K H x.2.1 [.int x.2.2.2.1.1, .str (stxt x.2.2.2.1.2)]
def rwV (x : Addr × Addr × Rw) : V := .ref x.1
def sizeR (rs : List Rcd) : Int := (rs.map fun r => (((lineL r.1 r.2).length + 1 : Nat) : Int)).sum
def sp__law_line (K : PySem.W.Frag) : Sp := fun vs H Q _ => ∃ (n : Int) (z : Str), vs = [.int n, .str z] ∧ 0 ≤ n ∧ n < 10000000 ∧ z.length ≤ 900 ∧ Q (.str (stxt (lineL n (tl z)))) H
def sp_whole_records (K : PySem.W.Frag) : Sp := fun vs H Q _ => ∃ z : Str, vs = [.str z] ∧ z.length ≤ 100000 ∧
  ∀ (p : Addr) (H' : Hp) (xs : List (Addr × Rcd)), H p = none → Ex H H' → H' p = some (.lst (xs.map rcV)) → RcAt K H' xs → xs.map (·.2) = wholeF none (linesT z) → Q (.ref p) H'
def sp_whole_length (K : PySem.W.Frag) : Sp := fun vs H Q _ => ∃ z : Str, vs = [.str z] ∧ z.length ≤ 100000 ∧ ∀ H', Ex H H' → Q (.int (sizeR (wholeF none (linesT z)))) H'
def sp__law_drawn (K : PySem.W.Frag) : Sp := fun vs H Q _ => ∃ (l : Addr) (ns : List Int) (at_ n : Int), vs = [.ref l, .int at_, .int n] ∧ SqL K H l (ns.map V.int) ∧ 0 ≤ at_ ∧ at_ + 3 ≤ ns.length ∧
  ∀ (p : Addr) (b : List Nat) H', Ex H H' → 1 ≤ b.length → b.length ≤ 20 → (∀ c ∈ b, 32 ≤ c ∧ c ≤ 126) → SqT K H' p [.int n, .str (stxt b)] → Q (.ref p) H'
def sp__law_lines (K : PySem.W.Frag) : Sp := fun vs H Q _ => ∃ (l : Addr) (ns : List Int), vs = [.ref l] ∧ SqL K H l (ns.map V.int) ∧ ns.length = 60 ∧ In9 ns ∧
  ∀ (p : Addr) (rs : List (Addr × Addr × Rw)) H', Ex H H' → SqL K H' p (rs.map rwV) → RwAt K H' rs → rs.length ≤ 8 → (∀ r ∈ rs, RwOk r.2.2 ∧ (r.2.2.2.2 = true → r.2.2.1 = lineL r.2.2.2.1.1 r.2.2.2.1.2) ∧ r.2.2.1.length ≤ 100 ∧ 0 ≤ r.2.2.2.1.1 ∧ r.2.2.2.1.1 < 10000000 ∧ r.2.2.2.1.2.length ≤ 20 ∧ ∀ c ∈ r.2.2.2.1.2, 32 ≤ c ∧ c ≤ 126) → Q (.ref p) H'
def sp_law (K : PySem.W.Frag) : Sp := fun vs H Q _ => ∃ (l : Addr) (xs : List Int), vs = [.ref l] ∧ SqL K H l (xs.map V.int) ∧ xs.length ≤ 63 ∧ ∀ H', Q (.bl true) H'
theorem drop_consG {α : Type} {l : List α} {i : Nat} {x : α} (h : l[i]? = some x) : l.drop i = x :: l.drop (i + 1) := by
  obtain ⟨hl, e⟩ := List.getElem?_eq_some_iff.mp h
  rw [List.drop_eq_getElem_cons hl, e]
theorem cutV_init (zs : List Str) : cutV (zs.map V.str) none (some (-1)) = zs.dropLast.map V.str := by
  unfold cutV
  have e : HT.sIx (zs.map V.str).length (zs.map V.str).length (some (-1)) = zs.length - 1 := by
    rw [List.length_map]
    show (if (-1 : Int) < 0 then ((-1 : Int) + (zs.length : Int)).toNat else min (-1 : Int).toNat zs.length) = zs.length - 1
    rw [if_pos (by decide)]
    omega
  rw [e, HT.sIx_none, List.drop_zero, Nat.sub_zero, ← List.map_take, List.dropLast_eq_take]
theorem join_count : ∀ ps : List (List Nat), ps.length ≤ (joinL [10] ps).length + 1
  | [] => Nat.zero_le _
  | [p] => by show 1 ≤ _; omega
  | p :: q :: r => by
    have ih := join_count (q :: r)
    rw [joinL_cons, List.length_append, List.length_append]
    show (q :: r).length + 1 ≤ p.length + 1 + _ + 1
    omega
theorem split_count (z : Str) : (Txt.split z "\n").length ≤ z.length + 1 := by
  have h1 := join_count ((Txt.split z "\n").map tl)
  rw [List.length_map] at h1
  have h := congrArg tl (StrLaws.join_split z "\n")
  rw [tl_join, show tl ("\n" : Str) = [10] by decide +kernel] at h
  rw [h, ← len_tl] at h1
  exact h1
theorem whole_mem : ∀ {ls : List (List Nat)} {o : Option Int} {r : Rcd}, r ∈ wholeF o ls → ∃ l ∈ ls, readRec l = some r
  | [], _, _, h => nomatch h
  | l :: ls, o, r, h => by
    unfold wholeF at h
    cases hr : readRec l with
    | none => rw [hr] at h; cases h
    | some r0 =>
      rw [hr] at h
      dsimp only at h
      split at h
      · rcases List.mem_cons.mp h with z | z
        · exact ⟨l, List.mem_cons_self, by rw [hr, z]⟩
        · obtain ⟨l2, h1, h2⟩ := whole_mem z
          exact ⟨l2, List.mem_cons_of_mem _ h1, h2⟩
      · cases h
theorem whole_len : ∀ {ls : List (List Nat)} {o : Option Int}, (wholeF o ls).length ≤ ls.length
  | [], _ => Nat.le_refl _
  | l :: ls, o => by
    unfold wholeF
    cases hr : readRec l with
    | none => exact Nat.zero_le _
    | some r0 =>
      dsimp only
      split
      · exact Nat.succ_le_succ whole_len
      · exact Nat.zero_le _
theorem digits_lt : ∀ (n : Nat) (l : List Nat), l.length ≤ n → (∀ c ∈ l, 48 ≤ c ∧ c ≤ 57) → NumText.digitsVal l < 10 ^ n
  | 0, l, h, _ => by
    rw [List.eq_nil_of_length_eq_zero (Nat.le_zero.mp h)]
    exact (by decide : (0 : Nat) < 1)
  | n + 1, l, h, hd => by
    rcases List.eq_nil_or_concat l with rfl | ⟨ys, c, rfl⟩
    · exact Nat.pos_of_ne_zero (by
        have : 0 < 10 ^ (n + 1) := Nat.pow_pos (by decide)
        omega)
    · rw [List.concat_eq_append] at h hd ⊢
      rw [List.length_append] at h
      have hc := hd c (List.mem_append.mpr (.inr List.mem_cons_self))
      have ih := digits_lt n ys (by have : [c].length = 1 := rfl; omega) fun x hx => hd x (List.mem_append.mpr (.inl hx))
      rw [NumText.digitsVal_snoc, Nat.pow_succ]
      omega
theorem numOf_some {n : Nat} {k : Int} {l : List Nat} {i : Int} (hk : k = (n : Int)) (h : numOf k l = some i) : 0 ≤ i ∧ i < ((10 ^ n : Nat) : Int) := by
  unfold numOf at h
  split at h
  · rename_i hc
    have e := Option.some.inj h
    have h1 := digits_lt n l (by omega) hc.2.2.1
    omega
  · cases h
theorem readRec_some {l : List Nat} {n : Int} {c : List Nat} (h : readRec l = some (n, c)) : 0 ≤ n ∧ n < 1000000 ∧ c.length ≤ 700 := by
  unfold readRec at h
  split at h
  · split at h
    · split at h
      · rename_i s n' hs hn'
        split at h
        · rename_i hc
          cases h
          have h6 := numOf_some (n := 6) rfl hn'
          have h7 : ((10 ^ 6 : Nat) : Int) = 1000000 := by decide
          rw [h7] at h6
          refine ⟨h6.1, h6.2, by omega⟩
        · cases h
      · cases h
    · cases h
  · cases h
theorem w_ifSB {b : Bool} {t u : TS} {D : Ends} {σ : L2.St} {H : Hp} (W : L2.St → Hp → Prop) (h1 : b = true → ∀ D' : Ends, (∀ σ' H', W σ' H' → D'.nx σ' H') → t D' σ H) (h0 : b = false → ∀ D' : Ends, (∀ σ' H', W σ' H' → D'.nx σ' H') → u D' σ H) (hk : ∀ σ' H', W σ' H' → D.nx σ' H') : if b = true then t D σ H else u D σ H := by
  split
  · rename_i h
    exact h1 h D hk
  · rename_i h
    exact h0 (by cases b; rfl; exact absurd rfl h) D hk
theorem spoil_none {n : Int} {body : List Nat} {e : Nat} (he : (lineL n body).getLast? ≠ some e) : readRec ((lineL n body).dropLast ++ [e]) = none := by
  rw [readRec_head, if_neg]
  rintro ⟨_, h⟩
  have ll := lineL_len n body
  have e1 : ((lineL n body).dropLast ++ [e]).length - 7 = (headL n body).length := by
    rw [List.length_append, List.length_dropLast]
    show _ + 1 - 7 = _
    omega
  rw [e1] at h
  have hX : lineL n body = headL n body ++ (32 :: chk (headL n body)) := rfl
  have hne : (32 :: chk (headL n body)) ≠ [] := List.cons_ne_nil _ _
  rw [hX, List.dropLast_append_of_ne_nil hne, List.append_assoc, List.drop_left, List.take_left] at h
  have h2 := congrArg List.getLast? h
  rw [List.getLast?_append] at h2
  rw [hX, List.getLast?_append, ← h2] at he
  exact he rfl
theorem big_none {n : Int} {body : List Nat} (h : 1000000 ≤ n) : readRec (lineL n body) = none := by
  refine checked_none ?_
  unfold recHead
  rw [cut_head]
  have e : numOf 6 (numL n.toNat) = none := by
    cases hq : numOf 6 (numL n.toNat) with
    | none => rfl
    | some i =>
      have h1 := numOf_some (n := 6) rfl hq
      unfold numOf at hq
      split at hq
      · have h2 := Option.some.inj hq
        rw [numL_val] at h2
        have h7 : ((10 ^ 6 : Nat) : Int) = 1000000 := by decide
        rw [h7] at h1
        omega
      · cases hq
  show (match numOf 3 (numL body.length), numOf 6 (numL n.toNat) with
    | some s, some n => if s = (body.length : Int) ∧ 1 ≤ s ∧ s ≤ 700 then some (n, body) else none
    | _, _ => none) = none
  rw [e]
  cases numOf 3 (numL body.length) <;> rfl
theorem numL_one : ∀ x : Nat, x < 10 → numL x = [48 + x] := by decide +kernel
/-- what a line of the law says -/
def LnOk (r : Rw) : Prop := readRec r.1 = (if r.2.2 = true then some r.2.1 else none) ∧ (r.2.2 = true → r.1 = lineL r.2.1.1 r.2.1.2) ∧ r.1.length ≤ 100 ∧ ∀ c ∈ r.1, 32 ≤ c ∧ c ≤ 126
theorem ln_new {n : Int} {b : List Nat} (h0 : 0 ≤ n) (h1 : n < 10000000) (b1 : 1 ≤ b.length) (b2 : b.length ≤ 20) (hb : ∀ c ∈ b, 32 ≤ c ∧ c ≤ 126) : LnOk (lineL n b, (n, b), decide (n ≤ 999999)) := by
  have ll := lineL_len n b
  have lh := headL_len7 (body := b) h0 h1 (by omega)
  refine ⟨?_, fun _ => rfl, by show (lineL n b).length ≤ 100; omega, lineL_plain hb⟩
  show readRec (lineL n b) = if decide (n ≤ 999999) = true then some (n, b) else none
  by_cases h : n ≤ 999999
  · rw [if_pos (decide_eq_true h)]
    exact read_line h0 (by omega) b1 (by omega) hb
  · rw [if_neg (by rw [decide_eq_false h]; decide)]
    exact big_none (by omega)
theorem ln_dig {n : Int} {b : List Nat} {d : Nat} (h : LnOk (lineL n b, (n, b), decide (n ≤ 999999))) (hd : (lineL n b).getLast? = some d) : LnOk ((lineL n b).dropLast ++ [48 + (d + 1) % 10], (n, b), false) := by
  have ll := lineL_len n b
  refine ⟨spoil_none (fun y => ?_), (fun y => nomatch y), ?_, fun c hc => ?_⟩
  · rw [hd] at y
    have := Option.some.inj y
    omega
  · have h1 : (lineL n b).length ≤ 100 := h.2.2.1
    show ((lineL n b).dropLast ++ [_]).length ≤ 100
    rw [List.length_append, List.length_dropLast]
    show _ + 1 ≤ 100
    omega
  · rcases List.mem_append.mp hc with z | z
    · exact h.2.2.2 c (List.dropLast_subset _ z)
    · rw [List.mem_singleton.mp z]
      omega
theorem ln_nil {n : Int} {b : List Nat} : LnOk ([], (n, b), false) := ⟨(by decide +kernel : readRec [] = none), (fun y => nomatch y), Nat.zero_le _, (fun c hc => nomatch hc)⟩
theorem l_itW {σ : L2.St} {H : Hp} {D : Ends} {g : TG} {t : TS} {J : It} {n : Nat} {G : Hp → Prop} {Y : Nat → Hp → V → Hp → Prop} (w : Walk J n G Y) (Pv : Nat → L2.St → Hp → Prop) (Wf : L2.St → Hp → Prop) (h0 : Pv 0 σ H) (hG : ∀ i σ H, i ≤ n → Pv i σ H → G H)
    (hs : ∀ i x σ H H', i < n → Pv i σ H → Y i H x H' → ∀ D' : Ends, (∀ σ H, Pv (i + 1) σ H → D'.nx σ H) → (∀ σ H, Wf σ H → D'.bk σ H) → g x σ H' fun σ2 H2 => t D' σ2 H2) (hd : ∀ σ H, Pv n σ H → Wf σ H) (hk : ∀ σ H, Wf σ H → D.nx σ H) : LoopOk J g t D σ H :=
  l_it w Pv h0 hG (fun i x σ H H' hi hP hY => hs i x σ H H' hi hP hY _ (fun _ _ h => h) (fun σ H h => hk σ H h)) fun σ H h => hk σ H (hd σ H h)
theorem text_lenR : ∀ {rs : List Rw}, (∀ r ∈ rs, r.1.length ≤ 100) → (textR rs).length ≤ 101 * rs.length
  | [], _ => Nat.zero_le _
  | r :: rs, h => by
    have h1 := h r List.mem_cons_self
    have ih := text_lenR (rs := rs) fun x hx => h x (List.mem_cons_of_mem _ hx)
    rw [textR_cons, List.length_append, List.length_cons, List.length_cons]
    omega
theorem sizeR_snoc {rs : List Rcd} {r : Rcd} : sizeR (rs ++ [r]) = sizeR rs + (((lineL r.1 r.2).length + 1 : Nat) : Int) := by
  unfold sizeR
  rw [List.map_append, List.sum_append, List.map_singleton, List.sum_singleton]
/-! the records as data -/
def tupD (r : Rcd) : PyData := .tuple [.int r.1, .str (stxt r.2)]
def rcD (zs : List Rcd) : PyData := .list (zs.map tupD)
def RcS (r : Rcd) : Prop := 0 ≤ r.1 ∧ r.1 < 10000000 ∧ r.2.length ≤ 700 ∧ ∀ c ∈ r.2, 32 ≤ c ∧ c ≤ 126
theorem log_sm24 {n : Int} (h0 : 0 ≤ n) (h1 : n < 10000000) : n.natAbs.log2 < 24 := by
  by_cases hz : n.natAbs = 0
  · rw [hz]
    decide
  · exact (Nat.log2_lt hz).mpr (show n.natAbs < 16777216 by omega)
theorem tup_facts {r : Rcd} (h : RcS r) : (tupD r).showable = true ∧ (tupD r).hasDict = false ∧ (tupD r).depth = 1 ∧ (tupD r).canLay0 = true ∧ (tupD r).weight ≤ 727 ∧ (tupD r).intsShort 13 = true := by
  obtain ⟨h0, h1, h2, h3⟩ := h
  have hl := log_sm24 h0 h1
  have hok : PyData.strOk (stxt r.2) = true := strOk_of fun c hc => by have := (h3 c hc).2; omega
  have hs : (stxt r.2).cps.size = r.2.length := len_stxt r.2
  have hn : (toString r.1 : Str).length ≤ 13 := Nat.le_trans (len_num h0 (k := 8) (by decide) (by show _ < 100000000; omega)) (by decide)
  unfold tupD
  refine ⟨?_, ?_, ?_, ?_, ?_, ?_⟩
  · simp only [PyData.showable, PyData.showableAll, Bool.and_true, decide_eq_true_eq]
    omega
  · simp only [PyData.hasDict, PyData.hasDictAll, Bool.or_self]
  · simp only [PyData.depth, PyData.depthAll]
    rfl
  · simp only [PyData.canLay0, PyData.canLayAll0, Bool.and_true, Bool.true_and]
    exact hok
  · simp only [PyData.weight, PyData.weightAll]
    rw [hs]
    split <;> omega
  · simp only [PyData.intsShort, PyData.intsShortAll, Bool.and_true, PyData.shown]
    exact decide_eq_true hn
theorem rc_facts : ∀ {zs : List Rcd}, (∀ r ∈ zs, RcS r) → PyData.showableAll (zs.map tupD) = true ∧ PyData.hasDictAll (zs.map tupD) = false ∧ PyData.depthAll (zs.map tupD) ≤ 1 ∧ PyData.canLayAll0 (zs.map tupD) = true ∧ PyData.weightAll (zs.map tupD) ≤ 728 * zs.length ∧ PyData.intsShortAll 13 (zs.map tupD) = true
  | [], _ => ⟨rfl, rfl, Nat.zero_le _, rfl, Nat.le_refl _, rfl⟩
  | r :: zs, h => by
    obtain ⟨a1, a2, a3, a4, a5, a6⟩ := tup_facts (h r List.mem_cons_self)
    obtain ⟨b1, b2, b3, b4, b5, b6⟩ := rc_facts (zs := zs) fun x hx => h x (List.mem_cons_of_mem _ hx)
    rw [List.map_cons]
    refine ⟨?_, ?_, ?_, ?_, ?_, ?_⟩
    · simp only [PyData.showableAll, a1, b1, Bool.and_self]
    · simp only [PyData.hasDictAll, a2, b2, Bool.or_self]
    · simp only [PyData.depthAll, a3]
      omega
    · simp only [PyData.canLayAll0, a4, b4, Bool.and_self]
    · simp only [PyData.weightAll, List.length_cons]
      omega
    · simp only [PyData.intsShortAll, a6, b6, Bool.and_self]
theorem rcD_facts {zs : List Rcd} (h : ∀ r ∈ zs, RcS r) (hl : zs.length ≤ 1000) : (rcD zs).showable = true ∧ (rcD zs).hasDict = false ∧ (rcD zs).depth ≤ 60 ∧ (rcD zs).shown.length ≤ sizeLine ∧ SeqAt.shaped (rcD zs) = true := by
  obtain ⟨b1, b2, b3, b4, b5, b6⟩ := rc_facts h
  have hd : (rcD zs).depth ≤ 2 := by
    unfold rcD
    simp only [PyData.depth]
    omega
  have hc0 : (rcD zs).canLay0 = true := by
    unfold rcD
    simp only [PyData.canLay0, b4]
  refine ⟨?_, ?_, by omega, Nat.le_trans (shown_le13 ?_ ?_) (by decide), ?_⟩
  · unfold rcD
    simp only [PyData.showable, b1]
  · unfold rcD
    simp only [PyData.hasDict, b2]
  · show ((rcD zs).canLay0 && decide ((rcD zs).depth ≤ 64) && decide ((rcD zs).weight ≤ 2 ^ 20)) = true
    have hc : (rcD zs).canLay0 = true := by
      unfold rcD
      simp only [PyData.canLay0, b4]
    have hw : (rcD zs).weight ≤ 2 ^ 20 := by
      unfold rcD
      simp only [PyData.weight]
      show _ ≤ 1048576
      omega
    rw [hc, decide_eq_true hw, decide_eq_true (show (rcD zs).depth ≤ 64 by omega)]
    rfl
  · unfold rcD
    simp only [PyData.intsShort, b6]
  · show ((rcD zs).canLay0 && decide ((rcD zs).depth ≤ 64)) = true
    rw [hc0, decide_eq_true (show (rcD zs).depth ≤ 64 by omega)]
    rfl
theorem dpAll_rc {K : PySem.W.Frag} {H : Hp} : ∀ {xs : List (Addr × Rcd)}, RcAt K H xs → DpAll K H (xs.map rcV) ((xs.map (·.2)).map tupD)
  | [], _ => .nil
  | x :: xs, h => .cons (.tup (h x List.mem_cons_self) (.cons (.int _) (.cons (.str _) .nil))) (dpAll_rc fun y hy => h y (List.mem_cons_of_mem _ hy))
theorem dp_rc {K : PySem.W.Frag} {H : Hp} {p : Addr} {xs : List (Addr × Rcd)} (hS : SqL K H p (xs.map rcV)) (hX : RcAt K H xs) : Dp K H (.ref p) (rcD (xs.map (·.2))) := .lst hS (dpAll_rc hX)
theorem expF_mem : ∀ {rs : List Rw} {m sz : Nat} {o : Option Int} {r : Rcd}, r ∈ expF m o sz rs → ∃ x ∈ rs, x.2.1 = r
  | [], _, _, _, _, h => nomatch h
  | x :: rs, m, sz, o, r, h => by
    unfold expF at h
    split at h
    · rcases List.mem_cons.mp h with z | z
      · exact ⟨x, List.mem_cons_self, z.symm⟩
      · obtain ⟨y, hy, e⟩ := expF_mem z
        exact ⟨y, List.mem_cons_of_mem _ hy, e⟩
    · cases h
section
variable {P : Program} {w : World} {K : PySem.W.Frag} {mg : Str → Option Value} {base : Heap} {a : Ads}
theorem ok__law_row (T : Txt P K mg a) : FnOk P w K mg base CX0 1 a.f__law_row a.d__law_row ["_law_cell", "_law_many"] (sp__law_row K) := by
  refine T.F__law_row.ok sc__law_row (fun vs H Q E h => ?len) (fun cdv A outer s H vs Q E hr h => ?body)
  case len => obtain ⟨c, m, rfl, _⟩ := h; rfl
  case body =>
    obtain ⟨c, m, rfl, hm0, hm1, q⟩ := h
    refine ⟨_, (pss_cons (ps_set (i := 2) sc__law_row.nd rfl (Or.inl rfl) (pe_lst pa_nil))
  (pss_cons (ps_set (i := 3) sc__law_row.nd rfl (Or.inl rfl) pe_int)
  (pss_cons (ps_if (pt_cmpR op_ge (pe_callB call_absN (by rfl) T.z_abs (by decide +kernel) (pa_cons (pv 0) pa_nil)) (pe_op op_pow pe_int pe_int) (nomark _))
   (pss_one (ps_set (i := 3) sc__law_row.nd rfl (Or.inl rfl) (pe_callB call_absN (by rfl) T.z_abs (by decide +kernel) (pa_cons (pv 0) pa_nil))))
   pss_nil)
  (pss_cons (ps_set (i := 4) sc__law_row.nd rfl (Or.inl rfl) (pe_op op_mod (pe_callTy call_intI (by rfl) T.z_int (by decide +kernel) (pa_cons (pe_callB call_absN (by rfl) T.z_abs (by decide +kernel) (pa_cons (pv 0) pa_nil)) pa_nil)) pe_int))
  (pss_cons (ps_for PassesOwn.never rfl (pi_range1 (by rfl) T.z_range (pa_cons (pv 1) pa_nil)) (pg_name (i := 5) sc__law_row.nd rfl (Or.inl rfl))
   (pss_cons (ps_set (i := 4) sc__law_row.nd rfl (Or.inl rfl) (pe_op op_mod (pe_callTy call_intI (by rfl) T.z_int (by decide +kernel) (pa_cons (pe_op op_add (pe_op op_mul (pe_op op_add (pv 4) pe_int) pe_int) (pe_op op_mul pe_int (pv 5))) pa_nil)) pe_int))
  (pss_one (ps_if (pt_cmpR op_gt (pv 3) pe_int (nomark _))
   (pss_cons (ps_expr (pe_bmK (K := K) rfl PySem.F.plainAttrs_list PySem.F.slot_list_append PySem.F.type_list_append mt_append (pv 2) (pa_cons (pe_op op_mod (pe_callTy call_intI (by rfl) T.z_int (by decide +kernel) (pa_cons (pv 3) pa_nil)) pe_int) pa_nil)))
  (pss_one (ps_set (i := 3) sc__law_row.nd rfl (Or.inl rfl) (pe_op op_fdiv (pv 3) pe_int))))
   (pss_one (ps_expr (pe_bmK (K := K) rfl PySem.F.plainAttrs_list PySem.F.slot_list_append PySem.F.type_list_append mt_append (pv 2) (pa_cons (pe_op op_mod (pe_callTy call_intI (by rfl) T.z_int (by decide +kernel) (pa_cons (pe_op op_fdiv (pv 4) pe_int) pa_nil)) pe_int) pa_nil))))))))
  (pss_one (ps_ret (pv 2)))))))), ?_⟩
    try dsimp only [cxOf, Cx.nox]
    walk_at "go"
    rename_i p hp
    refine w_ifset (fun x => ∃ r : Int, x = .int r ∧ 0 ≤ r) (fun _ R hR => ?_) (fun _ => ⟨_, rfl, 0, rfl, by omega⟩) ?_
    · walk_at "go"
      exact hR _ _ ⟨_, rfl, by split <;> omega⟩ (Evl.Ex.refl _)
    · rintro _ H0 ⟨r, rfl, hr0⟩ e0
      walk_at "go"
      refine l_it walk_range (fun i σ' H' => ∃ (r st : Int) (v5 : Option V) (ns : List Int), σ' = [some (.int c), some (.int m), some (.ref p), some (.int r), some (.int st), v5] ∧ 0 ≤ r ∧ 0 ≤ st ∧ st < 2147483647 ∧ Ex H H' ∧ H' p = some (.lst (ns.map V.int)) ∧ ns.length = i ∧ In9 ns)
        ⟨r, _, none, [], rfl, hr0, by omega, by omega, by walk_at "ex", e0 _ _ upd_same, rfl, In9.nil⟩ (fun _ _ _ _ _ => trivial) ?_ ?_
      · rintro i x σ' H1 H2 hi ⟨r, st, v5, ns, rfl, hr0, hst0, hst1, hE, hL, hlen, h9⟩ ⟨rfl, rfl⟩
        walk_at "go"
        have e0 : 0 ≤ (st + 1) * 48271 + 69621 * (0 + (i : Int)) := by omega
        refine w_dec (fun h => ?_) (fun h => ?_)
        · walk_at "go"
          exact ⟨_, _, _, ns ++ [r % 1009], rfl, by omega, Int.emod_nonneg _ (by decide), Int.emod_lt_of_pos _ (by decide), Evl.Ex.mut hE hp, by rw [upd_same, map_snoc], by simp [hlen], h9.snoc (Int.emod_nonneg _ (by decide)) (Int.emod_lt_of_pos _ (by decide))⟩
        · walk_at "go"
          exact ⟨_, _, _, ns ++ [_], rfl, hr0, Int.emod_nonneg _ (by decide), Int.emod_lt_of_pos _ (by decide), Evl.Ex.mut hE hp, by rw [upd_same, map_snoc], by simp [hlen], h9.snoc (Int.emod_nonneg _ (by decide)) (Int.emod_lt_of_pos _ (by decide))⟩
      · rintro σ' H1 ⟨r, st, v5, ns, rfl, hr0, hst0, hst1, hE, hL, hlen, h9⟩
        walk_at "go"
        exact q p H1 ns hp hE hL (by omega) h9
theorem ok__law_numbers (T : Txt P K mg a) : FnOk P w K mg base CX0 2 a.f__law_numbers a.d__law_numbers ["_law_script", "_law_many"] (sp__law_numbers K) := by
  refine T.F__law_numbers.ok sc__law_numbers (fun vs H Q E h => ?len) (fun cdv A outer s H vs Q E hr h => ?body)
  case len => obtain ⟨l, xs, m, rfl, _⟩ := h; rfl
  case body =>
    obtain ⟨l, xs, m, rfl, hS, hx, hm0, hm1, q⟩ := h
    refine ⟨_, (pss_cons (ps_set (i := 2) sc__law_numbers.nd rfl (Or.inl rfl) (pe_slice (sl_listK (K := K) rfl) (pv 0) po_none (po_some pe_int)))
  (pss_cons (ps_set (i := 3) sc__law_numbers.nd rfl (Or.inl rfl) (pe_op op_add pe_int (pe_op op_fdiv (pv 1) (pe_callB (call_max2N rfl) (by rfl) T.z_max (by decide +kernel) (pa_cons pe_int (pa_cons (pe_callB (call_lenK (K := K) rfl) (by rfl) T.z_len (by decide +kernel) (pa_cons (pv 2) pa_nil)) pa_nil))))))
  (pss_cons (ps_set (i := 4) sc__law_numbers.nd rfl (Or.inl rfl) (pe_lst pa_nil))
  (pss_cons (ps_for PassesOwn.never rfl (pi_listK (K := K) rfl (pv 2)) (pg_name (i := 5) sc__law_numbers.nd rfl (Or.inl rfl))
   (pss_one (ps_for PassesOwn.never rfl (pi_listK (K := K) rfl (pe_call (ok__law_row T) (hr.mono (by decide)) (by rfl) T.g__law_row T.F__law_row.kp T.b__law_row .nil pass0 (pa_cons (pv 5) (pa_cons (pv 3) pa_nil)))) (pg_name (i := 6) sc__law_numbers.nd rfl (Or.inl rfl))
   (pss_one (ps_expr (pe_bmK (K := K) rfl PySem.F.plainAttrs_list PySem.F.slot_list_append PySem.F.type_list_append mt_append (pv 4) (pa_cons (pv 6) pa_nil)))))))
  (pss_cons (ps_while PassesOwn.never (pt_cmpR op_lt (pe_callB (call_lenK (K := K) rfl) (by rfl) T.z_len (by decide +kernel) (pa_cons (pv 4) pa_nil)) (pv 1) (nomark _))
   (pss_one (ps_expr (pe_bmK (K := K) rfl PySem.F.plainAttrs_list PySem.F.slot_list_append PySem.F.type_list_append mt_append (pv 4) (pa_cons pe_int pa_nil)))))
  (pss_one (ps_ret (pe_slice (sl_listK (K := K) rfl) (pv 4) po_none (po_some (pv 1)))))))))), ?_⟩
    try dsimp only [cxOf, Cx.nox]
    walk_at "go"
    rename_i p hp
    have e1 : cutV (xs.map V.int) none (some 63) = xs.map V.int := by
      rw [cutV_to _ (by decide)]
      exact List.take_of_length_le (by rw [List.length_map]; exact hx)
    simp only [e1, List.length_map]
    have hd : 1 ≤ (if (xs.length : Int) > 1 then (xs.length : Int) else 1) ∧ (if (xs.length : Int) > 1 then (xs.length : Int) else 1) ≤ 63 := by split <;> omega
    generalize (if (xs.length : Int) > 1 then (xs.length : Int) else 1) = d at hd ⊢
    have hq0 : 0 ≤ m / d := Int.ediv_nonneg hm0 (by omega)
    have hq1 : m / d ≤ m := Int.ediv_le_self d hm0
    walk_at "go"
    rename_i pn hpn
    have npp : p ≠ pn := fun e => by rw [← e, upd_same] at hpn; cases hpn
    have hpn0 : H pn = none := by rw [upd_ne (Ne.symm npp)] at hpn; exact hpn
    refine l_it (walk_list (xs := xs.map V.int)) (fun i σ' H' => ∃ (v5 v6 : Option V) (ns : List Int), σ' = [some (.ref l), some (.int m), some (.ref p), some (.int (1 + m / d)), some (.ref pn), v5, v6] ∧ Ex H H' ∧ H' p = some (.lst (xs.map V.int)) ∧ H' pn = some (.lst (ns.map V.int)) ∧ ns.length ≤ 9001 * i ∧ In9 ns)
      ⟨none, none, [], rfl, by walk_at "ex", by rw [upd_ne npp, upd_same], upd_same, by simp, In9.nil⟩ (fun i σ' H' _ ⟨_, _, _, _, _, h, _⟩ => .inl (.inl h)) ?_ ?_
    · rintro i x σ' H1 H2 hi ⟨v5, v6, ns, rfl, hE, hP, hN, hlen, h9⟩ ⟨rfl, hxi⟩
      rw [List.length_map] at hi
      obtain ⟨c, rfl⟩ : ∃ c, x = V.int c := by
        rw [List.getElem?_map] at hxi
        cases e : xs[i]? with
        | none => rw [e] at hxi; cases hxi
        | some z => rw [e] at hxi; exact ⟨z, (Option.some.inj hxi).symm⟩
      walk_at "go"
      refine ⟨c, 1 + m / d, rfl, by omega, by omega, fun p' H3 ns' hp' hE' hL' hlen' h9' => ?_⟩
      walk_at "go"
      have np : p ≠ p' := ne_of_none hP hp'
      have nn : pn ≠ p' := ne_of_none hN hp'
      refine l_it (walk_list (xs := ns'.map V.int)) (fun j σ' H' => ∃ (v6 : Option V) (ns2 : List Int), σ' = [some (.ref l), some (.int m), some (.ref p), some (.int (1 + m / d)), some (.ref pn), some (.int c), v6] ∧ Ex H H' ∧ H' p = some (.lst (xs.map V.int)) ∧ H' p' = some (.lst (ns'.map V.int)) ∧ H' pn = some (.lst (ns2.map V.int)) ∧ ns2.length = ns.length + j ∧ In9 ns2)
        ⟨v6, ns, rfl, by walk_at "ex", by walk_at "at", by walk_at "at", by walk_at "at", rfl, h9⟩ (fun i σ' H' _ ⟨_, _, _, _, _, h, _⟩ => .inl (.inl h)) ?_ ?_
      · rintro j x σ' H4 H5 hj ⟨v6, ns2, rfl, hE, hP, hP', hN, hlen2, h92⟩ ⟨rfl, hxj⟩
        rw [List.length_map] at hj
        obtain ⟨y, hy, rfl⟩ : ∃ y, y ∈ ns' ∧ x = V.int y := by
          rw [List.getElem?_map] at hxj
          cases e : ns'[j]? with
          | none => rw [e] at hxj; cases hxj
          | some z => rw [e] at hxj; exact ⟨z, List.mem_of_getElem? e, (Option.some.inj hxj).symm⟩
        walk_at "go"
        exact ⟨_, ns2 ++ [y], rfl, Evl.Ex.mut hE hpn0, by rw [upd_ne npp]; exact hP, by rw [upd_ne (Ne.symm nn)]; exact hP', by rw [upd_same, map_snoc], by simp [hlen2]; omega, h92.snoc (h9' y hy).1 (h9' y hy).2⟩
      · rintro σ' H4 ⟨v6, ns2, rfl, hE, hP, hP', hN, hlen2, h92⟩
        rw [List.length_map] at hlen2
        exact ⟨_, v6, ns2, rfl, hE, hP, hN, by omega, h92⟩
    · rintro σ' H1 ⟨v5, v6, ns, rfl, hE, hP, hN, hlen, h9⟩
      rw [List.length_map] at hlen
      walk_at "go"
      refine l_while (fun k σ' H' => ∃ ns2 : List Int, σ' = [some (.ref l), some (.int m), some (.ref p), some (.int (1 + m / d)), some (.ref pn), v5, v6] ∧ Ex H H' ∧ H' pn = some (.lst (ns2.map V.int)) ∧ ns2.length ≤ 9001 * 63 + 9000 ∧ In9 ns2 ∧ k = 9000 - ns2.length) _ ⟨ns, rfl, hE, hN, by omega, h9, rfl⟩ ?_
      rintro k σ' H2 ⟨ns2, rfl, hE, hN, hlen2, h92, rfl⟩
      refine ⟨decide ((ns2.length : Int) < m), fun QB hQ => ?_, fun hb => ?_, fun hb => ?_⟩
      · walk_at "go"
        rw [List.length_map]
        exact hQ
      · have hb' := of_decide_eq_true hb
        walk_at "go"
        exact ⟨_, by rw [List.length_append, List.length_singleton]; omega, ns2 ++ [0], rfl, Evl.Ex.mut hE hpn0, by rw [upd_same, map_snoc], by rw [List.length_append, List.length_singleton]; omega, h92.snoc (by decide) (by decide), rfl⟩
      · have hb' := of_decide_eq_false hb
        walk_at "go"
        rename_i pr hpr
        refine q pr _ (ns2.take m.toNat) (ex_free hE hpr) (by walk_at "ex") (by rw [upd_same, cutV_to _ hm0, List.map_take]) (by rw [List.length_take]; omega) (fun n hn => h92 n (List.mem_of_mem_take hn))
theorem ok_read_number (T : Txt P K mg a) : FnOk P w K mg base CX0 1 a.f_read_number a.d_read_number ["part", "digits"] (sp_read_number K) := by
  refine T.F_read_number.ok sc_read_number (fun vs H Q E h => ?len) (fun cdv A outer s H vs Q E hr h => ?body)
  case len => obtain ⟨z, k, rfl, _⟩ := h; rfl
  case body =>
    obtain ⟨z, k, rfl, hz, hk, q⟩ := h
    have el := len_tl z
    refine ⟨_, (pss_cons (ps_if (PW.pt (pw_or (pt_not (pt_chain op_le op_le pe_int (pe_callB call_lenSN (by rfl) T.z_len (by decide +kernel) (pa_cons (pv 0) pa_nil)) (pv 1))) (pw_or1 (pt_not (pt_val (pe_callB (cr_allK (K := K) rfl rfl) (by rfl) T.z_all (by decide +kernel) (pa_cons (pe_lc (own := [("sign", 2)]) (g := gName 2) (tt := tYes) rfl sc_read_number.nd (pi_str (pv 0)) (blkOk_by (own := [("sign", 2)]) (N := ["part", "digits", "sign"]) (sc := defScope s_read_number) (by decide +kernel)) (fun _ _ _ _ _ => (pg_name (i := 2) sc_read_number.nd rfl (Or.inl rfl))) (fun _ _ _ _ _ => pts_nil) (fun _ _ _ _ _ => (pe_cmpR op_inSN (pv 2) (pe_globE T.c_DIGITS (by rfl)) rfl))) pa_nil)))))))
   (pss_one (ps_ret pe_non))
   pss_nil)
  (pss_cons (ps_if (PW.pt (pw_and (pt_cmpR op_gt (pe_callB call_lenSN (by rfl) T.z_len (by decide +kernel) (pa_cons (pv 0) pa_nil)) pe_int (nomark _)) (pw_and1 (pt_cmpR op_eq (pe_ix ix_str (pv 0) pe_int (fun _ _ => rfl)) pe_str (nomark _)))))
   (pss_one (ps_ret pe_non))
   pss_nil)
  (pss_one (ps_ret (pe_callTy call_intSN (by rfl) T.z_int (by decide +kernel) (pa_cons (pv 0) pa_nil)))))), ?_⟩
    try dsimp only [cxOf, Cx.nox]
    walk_at "go"
    refine w_dec (fun h1 => ?_) (fun h1 => ?_)
    · walk_at "go"
      refine w_ndec (fun h2 => ?_) (fun h2 => ?_)
      rotate_left
      · walk_at "go"
        refine lc_str (fun c => .bl (decide (c ∈ ("0123456789" : Str).cps.toList))) (by omega) (fun c hc H1 e1 R hR => ?_) (fun p H' hp hE hL => ?_)
        · walk_at "go"
          exact hR _ (Evl.Ex.refl _)
        · walk_at "go"
          refine w_ite (fun h3 => ?_) (fun h3 => ?_)
          · walk_at "go"
            have e : numOf k (tl z) = none := by
              unfold numOf
              rw [if_neg]
              rintro ⟨_, _, hd, _⟩
              have h4 : ((tl z).all fun c => decide (c ∈ ("0123456789" : Str).cps.toList)) = true := by
                rw [List.all_eq_true]
                intro c hc
                exact decide_eq_true ((mem_digits c).mpr (hd c hc))
              rw [h4] at h3
              cases h3
            have q1 := q H' hE
            rw [e] at q1
            exact q1
          · have h4 : ∀ c ∈ tl z, 48 ≤ c ∧ c ≤ 57 := fun c hc => by
              have h5 : ((tl z).all fun c => decide (c ∈ ("0123456789" : Str).cps.toList)) = true := by simpa using h3
              exact (mem_digits c).mp (of_decide_eq_true (List.all_eq_true.mp h5 c hc))
            walk_at "go"
            have leaf : ¬ (1 < (tl z).length ∧ (tl z).head? = some 48) → numOf k (tl z) = some ((NumText.digitsVal (tl z) : Nat) : Int) := fun hn => by
              unfold numOf
              rw [if_pos ⟨by omega, by omega, h4, hn⟩]
            have hint : PySem.intText? z = some ((NumText.digitsVal (tl z) : Nat) : Int) := intText_digits h4 (fun e0 => by
              have e1 : (tl z).length = 0 := by
                rw [show tl z = z.cps.toList from rfl, e0]
                rfl
              omega) (by omega)
            refine w_dec (fun h5 => ?_) (fun h5 => ?_)
            · have hlt : 0 < (tl z).length := by omega
              walk_at "go"
              obtain ⟨c, r, ez⟩ : ∃ c r, tl z = c :: r := by
                cases e : tl z with
                | nil => rw [e] at hlt; simp at hlt
                | cons c r => exact ⟨c, r, rfl⟩
              have ec0 : z.cps.toList.getD (Int.toNat 0) 0 = c := by
                rw [show z.cps.toList = c :: r from ez]
                rfl
              rw [ec0]
              refine w_dec (fun h6 => ?_) (fun h6 => ?_)
              · walk_at "go"
                have ec : c = 48 := (by have := congrArg tl h6; exact (List.cons.inj this).1)
                have e : numOf k (tl z) = none := by
                  unfold numOf
                  rw [if_neg]
                  rintro ⟨_, _, _, hn⟩
                  exact hn ⟨by omega, by rw [ez, ec]; rfl⟩
                have q1 := q H' hE
                rw [e] at q1
                exact q1
              · walk_at "go"
                refine g_intS hint (by omega) ?_
                have q1 := q H' hE
                rw [leaf fun ⟨_, hh⟩ => h6 (by rw [ez] at hh; have := Option.some.inj hh; subst this; rfl)] at q1
                exact q1
            · walk_at "go"
              refine g_intS hint (by omega) ?_
              have q1 := q H' hE
              rw [leaf fun ⟨hh, _⟩ => h5 (by omega)] at q1
              exact q1
      · walk_at "go"
        have e : numOf k (tl z) = none := by
          unfold numOf
          rw [if_neg (fun hh => h2 (by omega))]
        have q1 := q H (Evl.Ex.refl _)
        rw [e] at q1
        exact q1
    · walk_at "go"
      have e : numOf k (tl z) = none := by
        unfold numOf
        rw [if_neg (fun hh => h1 (by omega))]
      have q1 := q H (Evl.Ex.refl _)
      rw [e] at q1
      exact q1
theorem ok_is_plain (T : Txt P K mg a) : FnOk P w K mg base CX0 1 a.f_is_plain a.d_is_plain ["text"] (sp_is_plain K) := by
  refine T.F_is_plain.ok sc_is_plain (fun vs H Q E h => ?len) (fun cdv A outer s H vs Q E hr h => ?body)
  case len => obtain ⟨z, rfl, _⟩ := h; rfl
  case body =>
    obtain ⟨z, rfl, hz, q⟩ := h
    refine ⟨_, (pss_one (ps_ret (pe_callB (cr_allK (K := K) rfl rfl) (by rfl) T.z_all (by decide +kernel) (pa_cons (pe_lc (own := [("sign", 1)]) (g := gName 1) (tt := tYes) rfl sc_is_plain.nd (pi_str (pv 0)) (blkOk_by (own := [("sign", 1)]) (N := ["text", "sign"]) (sc := defScope s_is_plain) (by decide +kernel)) (fun _ _ _ _ _ => (pg_name (i := 1) sc_is_plain.nd rfl (Or.inl rfl))) (fun _ _ _ _ _ => pts_nil) (fun _ _ _ _ _ => (pe_chain op_le_strN op_le_strN pe_str (pv 1) pe_str))) pa_nil)))), ?_⟩
    try dsimp only [cxOf, Cx.nox]
    walk_at "go"
    refine lc_str (fun c => .bl (decide (32 ≤ c) && decide (c ≤ 126))) (by omega) (fun c hc H1 e1 R hR => ?_) (fun p H' hp hE hL => ?_)
    · walk_at "go"
      rw [show (!decide ((⟨#[c]⟩ : Str).cps.toList < (" " : Str).cps.toList)) = decide (32 ≤ c) from le_sp c]
      refine w_dec (fun h1 => ?_) (fun h1 => ?_)
      · walk_at "go"
        rw [show (!decide (("~" : Str).cps.toList < (⟨#[c]⟩ : Str).cps.toList)) = decide (c ≤ 126) from le_ti c]
        have q1 := hR H1 (Evl.Ex.refl _)
        rw [decide_eq_true h1] at q1
        exact q1
      · have q1 := hR H1 (Evl.Ex.refl _)
        rw [decide_eq_false h1] at q1
        exact q1
    · walk_at "go"
      exact q H' hE
theorem ok_check_digits (T : Txt P K mg a) : FnOk P w K mg base CX0 1 a.f_check_digits a.d_check_digits ["text"] (sp_check_digits K) := by
  refine T.F_check_digits.ok sc_check_digits (fun vs H Q E h => ?len) (fun cdv A outer s H vs Q E hr h => ?body)
  case len => obtain ⟨z, rfl, _⟩ := h; rfl
  case body =>
    obtain ⟨z, rfl, hz, q⟩ := h
    have el := len_tl z
    have es : z.cps.size = (tl z).length := by simp [tl]
    refine ⟨_, (pss_cons (ps_set (i := 1) sc_check_digits.nd rfl (Or.inl rfl) pe_int)
  (pss_cons (ps_set (i := 2) sc_check_digits.nd rfl (Or.inl rfl) pe_int)
  (pss_cons (ps_for PassesOwn.never rfl (pi_enumStr (by rfl) T.z_enumerate (pa_cons (pv 0) (pa_cons pe_int pa_nil))) (pg_tupK (K := K) rfl rfl (pgs_cons (pg_name (i := 3) sc_check_digits.nd rfl (Or.inl rfl)) (pgs_cons (pg_name (i := 4) sc_check_digits.nd rfl (Or.inl rfl)) pgs_nil)))
   (pss_cons (ps_aug (i := 1) sc_check_digits.nd rfl (Or.inl rfl) (pe_callB call_ordN (by rfl) T.z_ord (by decide +kernel) (pa_cons (pv 4) pa_nil)) ip_add)
  (pss_one (ps_aug (i := 2) sc_check_digits.nd rfl (Or.inl rfl) (pe_op op_mul (pv 3) (pe_callB call_ordN (by rfl) T.z_ord (by decide +kernel) (pa_cons (pv 4) pa_nil))) ip_add))))
  (pss_one (ps_ret (pe_op op_addSN (pe_bmK (K := K) rfl PySem.F.plainAttrs_str PySem.F.slot_str_rjust PySem.F.type_str_rjust mt_rjustN (pe_callTy call_strIN (by rfl) T.z_str (by decide +kernel) (pa_cons (pe_op op_mod (pv 1) (pe_globE T.c_PRIME (by rfl))) pa_nil)) (pa_cons pe_int (pa_cons pe_str pa_nil))) (pe_bmK (K := K) rfl PySem.F.plainAttrs_str PySem.F.slot_str_rjust PySem.F.type_str_rjust mt_rjustN (pe_callTy call_strIN (by rfl) T.z_str (by decide +kernel) (pa_cons (pe_op op_mod (pv 2) (pe_globE T.c_PRIME (by rfl))) pa_nil)) (pa_cons pe_int (pa_cons pe_str pa_nil))))))))), ?_⟩
    try dsimp only [cxOf, Cx.nox]
    walk_at "go"
    refine g_iEnumStr ?_
    walk_at "go"
    refine g_atE (by decide) ?_
    refine l_it walk_enumStr (fun i σ' H' => ∃ v3 v4 : Option V, σ' = [some (.str z), some (.int (S1 ((tl z).take i))), some (.int (S2 1 ((tl z).take i))), v3, v4] ∧ Ex H H')
      ⟨none, none, rfl, Evl.Ex.refl _⟩ (fun _ _ _ _ _ => trivial) ?_ ?_
    · rintro i x σ' H1 H2 hi ⟨v3, v4, rfl, hE⟩ ⟨T', c, rfl, hT, rfl, hc⟩
      have hc' : (tl z)[i]? = some c := by simpa [tl] using hc
      have hi' : i < (tl z).length := by omega
      have et : (tl z).take (i + 1) = (tl z).take i ++ [c] := by rw [List.take_add_one, hc']; rfl
      walk_at "go"
      refine ⟨some (.int (1 + (i : Int))), some (.str ⟨#[c]⟩), ?_, hE.trans (Evl.Ex.new hT)⟩
      rw [et, S1_snoc, S2_snoc, List.length_take, Nat.min_eq_left (by omega)]
      rfl
    · rintro σ' H1 ⟨v3, v4, rfl, hE⟩
      rw [es, List.take_length]
      have m1 := Int.emod_nonneg (S1 (tl z)) (show (997 : Int) ≠ 0 by decide)
      have m2 := Int.emod_lt_of_pos (S1 (tl z)) (show (0 : Int) < 997 by decide)
      have m3 := Int.emod_nonneg (S2 1 (tl z)) (show (997 : Int) ≠ 0 by decide)
      have m4 := Int.emod_lt_of_pos (S2 1 (tl z)) (show (0 : Int) < 997 by decide)
      walk_at "go"
      rw [rjust3 m1 (by omega), rjust3 m3 (by omega)]
      walk_at "go"
      refine g_addS (fits_of (by rw [len_stxt, len_stxt, three_len (mod_lt _), three_len (mod_lt _)]; omega)) ?_
      rw [stxt_app]
      exact q H1 hE
theorem ok_record_line (T : Txt P K mg a) : FnOk P w K mg base CX0 2 a.f_record_line a.d_record_line ["number", "body"] (sp_record_line K) := by
  refine T.F_record_line.ok sc_record_line (fun vs H Q E h => ?len) (fun cdv A outer s H vs Q E hr h => ?body)
  case len => obtain ⟨n, z, rfl, _⟩ := h; rfl
  case body =>
    obtain ⟨n, z, rfl, hn0, hn1, hz, q⟩ := h
    have el := len_tl z
    have l1 : (toString (z.length : Int) : Str).length ≤ 3 := len_num (by omega) (by decide) (by show _ < 1000; omega)
    have l2 : (toString n : Str).length ≤ 6 := len_num hn0 (by decide) (by show _ < 1000000; omega)
    have l3 : (" " : Str).length = 1 := by decide +kernel
    have l0 : Str.empty.length = 0 := rfl
    refine ⟨_, (pss_cons (ps_set (i := 2) sc_record_line.nd rfl (Or.inl rfl) (pe_joined (.cons (pe_fmt (pe_callB call_lenSN (by rfl) T.z_len (by decide +kernel) (pa_cons (pv 1) pa_nil))) (.cons pe_str (.cons (pe_fmt (pv 0)) (.cons pe_str (.cons (pe_fmt (pv 1)) .nil)))))))
  (pss_one (ps_ret (pe_op op_addSN (pe_op op_addSN (pv 2) pe_str) (pe_call (ok_check_digits T) (hr.mono (by decide)) (by rfl) T.g_check_digits T.F_check_digits.kp T.b_check_digits .nil pass0 (pa_cons (pv 2) pa_nil)))))), ?_⟩
    try dsimp only [cxOf, Cx.nox]
    walk_at "go"
    have eh : (Str.empty ++ (toString (z.length : Int) : Str) ++ " " ++ (toString n : Str) ++ " " ++ z) = stxt (headL n (tl z)) := by
      refine ext_tl ?_
      rw [tl_append, tl_append, tl_append, tl_append, tl_append, tl_num' (by omega), tl_num' hn0, tl_stxt, show tl (" " : Str) = [32] by decide +kernel, show tl Str.empty = [] from rfl, Int.toNat_natCast, el]
      unfold headL
      simp
    have lh : (headL n (tl z)).length ≤ 11 + (tl z).length := headL_len hn0 hn1 (by omega)
    rw [eh]
    walk_at "go"
    refine ⟨_, rfl, by rw [len_stxt]; omega, fun H' hE => ?_⟩
    refine g_addS (fits_of (by rw [len_app, len_stxt, len_stxt, tl_stxt, chk_len]; omega)) ?_
    have e2 : stxt (headL n (tl z)) ++ (" " : Str) ++ stxt (chk (tl (stxt (headL n (tl z))))) = stxt (lineL n (tl z)) := by
      refine ext_tl ?_
      rw [tl_append, tl_append, tl_stxt, tl_stxt, tl_stxt, show tl (" " : Str) = [32] by decide +kernel]
      unfold lineL
      simp
    rw [e2]
    exact q H' hE
theorem ok_read_record (T : Txt P K mg a) : FnOk P w K mg base CX0 2 a.f_read_record a.d_read_record ["line"] (sp_read_record K) := by
  refine T.F_read_record.ok sc_read_record (fun vs H Q E h => ?len) (fun cdv A outer s H vs Q E hr h => ?body)
  case len => obtain ⟨z, rfl, _⟩ := h; rfl
  case body =>
    obtain ⟨z, rfl, hz, q0, q1⟩ := h
    have el := len_tl z
    have eh : tl (cutS z none (some (-7))) = (tl z).take ((tl z).length - 7) := tl_cut_toNeg z (k := 7) (by decide)
    have et : tl (cutS z (some (-7)) none) = (tl z).drop ((tl z).length - 7) := tl_cut_fromNeg z (k := 7) (by decide)
    have lh : (cutS z none (some (-7))).length ≤ 100000 := by rw [len_tl, eh, List.length_take]; omega
    have lt' : (cutS z (some (-7)) none).length ≤ 100000 := by rw [len_tl, et, List.length_drop]; omega
    have hps : (Txt.splitMax (cutS z none (some (-7))) " " 2).map tl = cutN 2 ((tl z).take ((tl z).length - 7)) := by rw [← eh]; exact splitMax_cutN _ (by decide)
    refine ⟨_, (pss_cons (ps_set (i := 1) sc_read_record.nd rfl (Or.inl rfl) (pe_slice sl_str (pv 0) po_none (po_some (pe_un un_neg (pe_globE T.c_CHECK_LENGTH (by rfl))))))
  (pss_cons (ps_set (i := 2) sc_read_record.nd rfl (Or.inl rfl) (pe_bmK (K := K) rfl PySem.F.plainAttrs_str PySem.F.slot_str_split PySem.F.type_str_split mt_splitMaxN (pv 1) (pa_cons pe_str (pa_cons pe_int pa_nil))))
  (pss_cons (ps_if (PW.pt (pw_or (pt_not (pt_val (pe_call (ok_is_plain T) (hr.mono (by decide)) (by rfl) T.g_is_plain T.F_is_plain.kp T.b_is_plain .nil pass0 (pa_cons (pv 0) pa_nil)))) (pw_or (pt_cmpR op_lt (pe_callB (call_lenK (K := K) rfl) (by rfl) T.z_len (by decide +kernel) (pa_cons (pv 2) pa_nil)) pe_int (nomark _)) (pw_or1 (pt_cmpR op_ne (pe_slice sl_str (pv 0) (po_some (pe_un un_neg (pe_globE T.c_CHECK_LENGTH (by rfl)))) po_none) (pe_op op_addSN pe_str (pe_call (ok_check_digits T) (hr.mono (by decide)) (by rfl) T.g_check_digits T.F_check_digits.kp T.b_check_digits .nil pass0 (pa_cons (pv 1) pa_nil))) (nomark _))))))
   (pss_one (ps_ret pe_non))
   pss_nil)
  (pss_cons (ps_set (i := 3) sc_read_record.nd rfl (Or.inl rfl) (pe_call (ok_read_number T) (hr.mono (by decide)) (by rfl) T.g_read_number T.F_read_number.kp T.b_read_number .nil pass0 (pa_cons (pe_ix (ix_listK (K := K) rfl) (pv 2) pe_int (fun _ _ => rfl)) (pa_cons pe_int pa_nil))))
  (pss_cons (ps_set (i := 4) sc_read_record.nd rfl (Or.inl rfl) (pe_call (ok_read_number T) (hr.mono (by decide)) (by rfl) T.g_read_number T.F_read_number.kp T.b_read_number .nil pass0 (pa_cons (pe_ix (ix_listK (K := K) rfl) (pv 2) pe_int (fun _ _ => rfl)) (pa_cons pe_int pa_nil))))
  (pss_cons (ps_if (PW.pt (pw_or (pt_cmpR op_isNN (pv 3) pe_non (nomark _)) (pw_or (pt_cmpR op_ne (pv 3) (pe_callB call_lenSN (by rfl) T.z_len (by decide +kernel) (pa_cons (pe_ix (ix_listK (K := K) rfl) (pv 2) pe_int (fun _ _ => rfl)) pa_nil)) (nomark _)) (pw_or (pt_not (pt_chain op_le op_le pe_int (pv 3) (pe_globE T.c_MOST_BODY (by rfl)))) (pw_or1 (pt_cmpR op_isNN (pv 4) pe_non (nomark _)))))))
   (pss_one (ps_ret pe_non))
   pss_nil)
  (pss_one (ps_ret (pe_tup (pa_cons (pv 4) (pa_cons (pe_ix (ix_listK (K := K) rfl) (pv 2) pe_int (fun _ _ => rfl)) pa_nil))))))))))), ?_⟩
    try dsimp only [cxOf, Cx.nox]
    walk_at "go"
    rename_i p hp
    refine ⟨z, rfl, hz, fun H1 e1 => ?_⟩
    walk_at "go"
    refine w_ite (fun h1 => ?_) (fun h1 => ?_)
    · walk_at "go"
      refine q0 ?_ _ (by walk_at "ex")
      unfold readRec
      rw [if_neg (fun hh => by rw [hh.1] at h1; cases h1)]
    · have h1' : plainL (tl z) = true := by simpa using h1
      walk_at "go"
      refine w_dec (fun h2 => ?_) (fun h2 => ?_)
      · walk_at "go"
        refine q0 ?_ _ (by walk_at "ex")
        unfold readRec
        split
        · rw [← hps]
          split
          · rename_i e
            have e2 := congrArg List.length e
            rw [List.length_map] at e2 h2
            have e3 : (Txt.splitMax (cutS z none (some (-7))) " " 2).length = 3 := e2
            rw [e3] at h2
            exact absurd h2 (by decide)
          · rfl
        · rfl
      · obtain ⟨a, b, c, e3⟩ : ∃ a b c, cutN 2 ((tl z).take ((tl z).length - 7)) = [a, b, c] := by
          rcases cutN2_cases ((tl z).take ((tl z).length - 7)) with h | h
          · exact h
          · exfalso
            rw [← hps, List.length_map] at h
            rw [List.length_map] at h2
            omega
        have e4 := map_tl3 (hps.trans e3)
        have e5 : a.length ≤ (tl z).length ∧ b.length ≤ (tl z).length ∧ c.length ≤ (tl z).length := by
          have f : ∀ x ∈ Txt.splitMax (cutS z none (some (-7))) " " 2, x.length ≤ (cutS z none (some (-7))).length := fun x hx => partMax_short hx
          rw [e4] at f
          have l0 : (cutS z none (some (-7))).length ≤ (tl z).length := by rw [len_tl, eh, List.length_take]; omega
          have f1 := f (stxt a) (by simp)
          have f2 := f (stxt b) (by simp)
          have f3 := f (stxt c) (by simp)
          rw [len_stxt] at f1 f2 f3
          omega
        rw [e4] at e1
        clear h2 hps
        walk_at "go"
        refine ⟨_, rfl, lh, fun H2 e2 => ?_⟩
        refine g_addS (fits_of (by rw [len_stxt, chk_len, show (" " : Str).length = 1 by decide +kernel]; omega)) ?_
        walk_at "go"
        refine w_ndec (fun h3 => ?_) (fun h3 => ?_)
        · walk_at "go"
          refine q0 ?_ _ (by walk_at "ex")
          unfold readRec
          rw [if_neg (fun hh => h3 (ext_tl (by rw [et, hh.2, tl_append, tl_stxt, eh, show tl (" " : Str) = [32] by decide +kernel]; rfl)))]
        · have h3' : (tl z).drop ((tl z).length - 7) = 32 :: chk ((tl z).take ((tl z).length - 7)) := by
            have z3 := congrArg tl h3
            rw [et, tl_append, tl_stxt, eh, show tl (" " : Str) = [32] by decide +kernel] at z3
            exact z3
          have main : readRec (tl z) = (match numOf 3 a, numOf 6 b with
              | some s, some n => if s = (c.length : Int) ∧ 1 ≤ s ∧ s ≤ 700 then some (n, c) else none
              | _, _ => none) := by
            unfold readRec
            rw [if_pos ⟨h1', h3'⟩, e3]
            all_goals rfl
          have hP : SqL K H1 p [V.str (stxt a), V.str (stxt b), V.str (stxt c)] := .inl (.inl (e1 p _ upd_same))
          walk_at "go"
          refine ⟨_, _, rfl, by rw [len_stxt]; omega, by decide, fun H3 e6 => ?_⟩
          walk_at "go"
          refine ⟨_, _, rfl, by rw [len_stxt]; omega, by decide, fun H4 e7 => ?_⟩
          rw [tl_stxt, tl_stxt]
          cases e8 : numOf 3 a with
          | none =>
            dsimp only [oI]
            walk_at "go"
            exact q0 (by rw [main, e8]) _ (by walk_at "ex")
          | some s =>
            cases e9 : numOf 6 b with
            | none =>
              dsimp only [oI]
              have hq := q0 (by rw [main, e8, e9]) H4 (by walk_at "ex")
              walk_at "go"
              refine w_ndec (fun h4 => ?_) (fun h4 => ?_)
              · walk_at "go"
                exact hq
              · walk_at "go"
                refine w_dec (fun h5 => ?_) (fun h5 => ?_)
                · walk_at "go"
                  refine w_ndec (fun h6 => ?_) (fun h6 => ?_)
                  · walk_at "go"
                    exact hq
                  · walk_at "go"
                    exact hq
                · walk_at "go"
                  exact hq
            | some n =>
              dsimp only [oI]
              have hq : ¬ (s = (c.length : Int) ∧ 1 ≤ s ∧ s ≤ 700) → Q .non H4 := fun hn => q0 (by rw [main, e8, e9]; exact if_neg hn) H4 (by walk_at "ex")
              walk_at "go"
              rw [len_stxt]
              refine w_ndec (fun h4 => ?_) (fun h4 => ?_)
              · walk_at "go"
                exact hq fun hh => h4 hh.1
              · walk_at "go"
                refine w_dec (fun h5 => ?_) (fun h5 => ?_)
                · walk_at "go"
                  refine w_ndec (fun h6 => ?_) (fun h6 => ?_)
                  · walk_at "go"
                    exact hq fun hh => h6 hh.2.2
                  · walk_at "go"
                    rename_i p2 hp2
                    have ef : Ex H H4 := by walk_at "ex"
                    exact q1 n c (by rw [main, e8, e9]; exact if_pos ⟨h4, h5, h6⟩) p2 _ (ex_free ef hp2) (by walk_at "ex") upd_same
                · walk_at "go"
                  exact hq fun hh => h5 hh.2.1
theorem ok__law_sign (T : Txt P K mg a) : FnOk P w K mg base CX0 1 a.f__law_sign a.d__law_sign ["_law_number"] (sp__law_sign K) := by
  refine T.F__law_sign.ok sc__law_sign (fun vs H Q E h => ?len) (fun cdv A outer s H vs Q E hr h => ?body)
  case len => obtain ⟨z, rfl, _⟩ := h; rfl
  case body =>
    obtain ⟨n, rfl, q⟩ := h
    refine ⟨_, (pss_cons (ps_set (i := 1) sc__law_sign.nd rfl (Or.inl rfl) pe_str)
  (pss_one (ps_ret (pe_ix ix_str (pv 1) (pe_op op_mod (pe_callTy call_intI (by rfl) T.z_int (by decide +kernel) (pa_cons (pv 0) pa_nil)) pe_int) (fun _ _ => rfl))))), ?_⟩
    try dsimp only [cxOf, Cx.nox]
    walk_at "go"
    refine g_ixS (by decide +kernel) (sign_at n).1 q
theorem ok_record_text (T : Txt P K mg a) : FnOk P w K mg base CX0 3 a.f_record_text a.d_record_text ["number", "body"] (sp_record_text K) := by
  refine T.F_record_text.ok sc_record_text (fun vs H Q E h => ?len) (fun cdv A outer s H vs Q E hr h => ?body)
  case len => obtain ⟨n, z, rfl, _⟩ := h; rfl
  case body =>
    obtain ⟨n, z, rfl, hn0, hn1, hz, q⟩ := h
    refine ⟨_, (pss_one (ps_ret (pe_op op_addSN (pe_call (ok_record_line T) (hr.mono (by decide)) (by rfl) T.g_record_line T.F_record_line.kp T.b_record_line .nil pass0 (pa_cons (pv 0) (pa_cons (pv 1) pa_nil))) pe_str))), ?_⟩
    try dsimp only [cxOf, Cx.nox]
    walk_at "go"
    refine ⟨n, z, rfl, hn0, hn1, hz, fun H' hE => ?_⟩
    have el := len_tl z
    have ll := lineL_len n (tl z)
    have lh := headL_len (body := tl z) hn0 hn1 (by omega)
    have ln : ("\n" : Str).length = 1 := by decide +kernel
    walk_at "go"
    have e : stxt (lineL n (tl z)) ++ ("\n" : Str) = stxt (lineL n (tl z) ++ [10]) := ext_tl (by rw [tl_append, tl_stxt, tl_stxt, show tl ("\n" : Str) = [10] by decide +kernel])
    rw [e]
    exact q H' hE
theorem ok__law_three (T : Txt P K mg a) : FnOk P w K mg base CX0 1 a.f__law_three a.d__law_three ["_law_number"] (sp__law_three K) := by
  refine T.F__law_three.ok sc__law_three (fun vs H Q E h => ?len) (fun cdv A outer s H vs Q E hr h => ?body)
  case len => obtain ⟨n, rfl, _⟩ := h; rfl
  case body =>
    obtain ⟨n, rfl, q⟩ := h
    have m0 := Int.emod_nonneg n (show (997 : Int) ≠ 0 by decide)
    have m1 := Int.emod_lt_of_pos n (show (0 : Int) < 997 by decide)
    have l1 : (toString (n % 997) : Str).length ≤ 3 := len_num m0 (by decide) (by show _ < 1000; omega)
    have l2 : ("00" : Str).length = 2 := by decide +kernel
    refine ⟨_, (pss_one (ps_ret (pe_slice sl_str (pe_op op_addSN pe_str (pe_callTy call_strIN (by rfl) T.z_str (by decide +kernel) (pa_cons (pe_op op_mod (pe_callTy call_intI (by rfl) T.z_int (by decide +kernel) (pa_cons (pv 0) pa_nil)) pe_int) pa_nil))) (po_some (pe_un un_neg pe_int)) po_none))), ?_⟩
    try dsimp only [cxOf, Cx.nox]
    walk_at "go"
    have e : cutS (("00" : Str) ++ (toString (n % 997) : Str)) (some (-3)) none = _ := three_cut m0 (by omega)
    rw [← e] at q
    exact q
theorem ok__law_digits (T : Txt P K mg a) : FnOk P w K mg base CX0 2 a.f__law_digits a.d__law_digits ["_law_text_here"] (sp__law_digits K) := by
  refine T.F__law_digits.ok sc__law_digits (fun vs H Q E h => ?len) (fun cdv A outer s H vs Q E hr h => ?body)
  case len => obtain ⟨z, rfl, _⟩ := h; rfl
  case body =>
    obtain ⟨z, rfl, hz, q⟩ := h
    have el := len_tl z
    refine ⟨_, (pss_cons (ps_set (i := 1) sc__law_digits.nd rfl (Or.inl rfl) pe_int)
  (pss_cons (ps_set (i := 2) sc__law_digits.nd rfl (Or.inl rfl) pe_int)
  (pss_cons (ps_for PassesOwn.never rfl (pi_range1 (by rfl) T.z_range (pa_cons (pe_callB call_lenSN (by rfl) T.z_len (by decide +kernel) (pa_cons (pv 0) pa_nil)) pa_nil)) (pg_name (i := 3) sc__law_digits.nd rfl (Or.inl rfl))
   (pss_cons (ps_set (i := 1) sc__law_digits.nd rfl (Or.inl rfl) (pe_op op_add (pv 1) (pe_callB call_ordN (by rfl) T.z_ord (by decide +kernel) (pa_cons (pe_ix ix_str (pv 0) (pv 3) (fun _ _ => rfl)) pa_nil))))
  (pss_one (ps_set (i := 2) sc__law_digits.nd rfl (Or.inl rfl) (pe_op op_add (pv 2) (pe_op op_mul (pe_op op_add (pv 3) pe_int) (pe_callB call_ordN (by rfl) T.z_ord (by decide +kernel) (pa_cons (pe_ix ix_str (pv 0) (pv 3) (fun _ _ => rfl)) pa_nil))))))))
  (pss_one (ps_ret (pe_op op_addSN (pe_call (ok__law_three T) (hr.mono (by decide)) (by rfl) T.g__law_three T.F__law_three.kp T.b__law_three .nil pass0 (pa_cons (pv 1) pa_nil)) (pe_call (ok__law_three T) (hr.mono (by decide)) (by rfl) T.g__law_three T.F__law_three.kp T.b__law_three .nil pass0 (pa_cons (pv 2) pa_nil)))))))), ?_⟩
    try dsimp only [cxOf, Cx.nox]
    walk_at "go"
    refine l_it walk_range (fun i σ' H' => ∃ v3 : Option V, σ' = [some (.str z), some (.int (S1 ((tl z).take i))), some (.int (S2 1 ((tl z).take i))), v3] ∧ H' = H)
      ⟨none, rfl, rfl⟩ (fun _ _ _ _ _ => trivial) ?_ ?_
    · rintro i x σ' H1 H2 hi ⟨v3, rfl, rfl⟩ ⟨rfl, rfl⟩
      have hi' : i < (tl z).length := by have : i < Int.toNat (z.length : Int) := hi; omega
      have hc' : (tl z)[i]? = some ((tl z).getD i 0) := by rw [List.getElem?_eq_getElem hi', List.getD_eq_getElem?_getD, List.getElem?_eq_getElem hi']; rfl
      have et : (tl z).take (i + 1) = (tl z).take i ++ [(tl z).getD i 0] := by rw [List.take_add_one, hc']; rfl
      walk_at "go"
      refine ⟨some (.int (0 + (i : Int))), ?_, rfl⟩
      have e1 : (0 + (i : Int)).toNat = i := by omega
      have e2 : (0 + (i : Int) + 1) = 1 + (i : Int) := by omega
      rw [et, S1_snoc, S2_snoc, List.length_take, Nat.min_eq_left (by omega), e1, e2]
      rfl
    · rintro σ' H1 ⟨v3, rfl, rfl⟩
      rw [show Int.toNat (z.length : Int) = (tl z).length by omega, List.take_length]
      walk_at "go"
      refine ⟨_, rfl, ?_⟩
      walk_at "go"
      refine ⟨_, rfl, ?_⟩
      refine g_addS (fits_of (by rw [len_stxt, len_stxt, three_len (mod_lt _), three_len (mod_lt _)]; omega)) ?_
      rw [stxt_app]
      exact q
theorem ok__law_line (T : Txt P K mg a) : FnOk P w K mg base CX0 3 a.f__law_line a.d__law_line ["_law_number", "_law_body"] (sp__law_line K) := by
  refine T.F__law_line.ok sc__law_line (fun vs H Q E h => ?len) (fun cdv A outer s H vs Q E hr h => ?body)
  case len => obtain ⟨n, z, rfl, _⟩ := h; rfl
  case body =>
    obtain ⟨n, z, rfl, hn0, hn1, hz, q⟩ := h
    have el := len_tl z
    have l1 : (toString (z.length : Int) : Str).length ≤ 3 := len_num (by omega) (by decide) (by show _ < 1000; omega)
    have l2 : (toString n : Str).length ≤ 7 := len_num hn0 (by decide) (by show _ < 10000000; omega)
    have l3 : (" " : Str).length = 1 := by decide +kernel
    have eh : ((toString (z.length : Int) : Str) ++ " " ++ (toString n : Str) ++ " " ++ z) = stxt (headL n (tl z)) := by
      refine ext_tl ?_
      rw [tl_append, tl_append, tl_append, tl_append, tl_num' (by omega), tl_num' hn0, tl_stxt, show tl (" " : Str) = [32] by decide +kernel, Int.toNat_natCast, el]
      unfold headL
      simp
    have lh : (headL n (tl z)).length ≤ 12 + (tl z).length := headL_len7 hn0 hn1 (by omega)
    refine ⟨_, (pss_cons (ps_set (i := 2) sc__law_line.nd rfl (Or.inl rfl) (pe_op op_addSN (pe_op op_addSN (pe_op op_addSN (pe_op op_addSN (pe_callTy call_strIN (by rfl) T.z_str (by decide +kernel) (pa_cons (pe_callB call_lenSN (by rfl) T.z_len (by decide +kernel) (pa_cons (pv 1) pa_nil)) pa_nil)) pe_str) (pe_callTy call_strIN (by rfl) T.z_str (by decide +kernel) (pa_cons (pv 0) pa_nil))) pe_str) (pv 1)))
  (pss_one (ps_ret (pe_op op_addSN (pe_op op_addSN (pv 2) pe_str) (pe_call (ok__law_digits T) (hr.mono (by decide)) (by rfl) T.g__law_digits T.F__law_digits.kp T.b__law_digits .nil pass0 (pa_cons (pv 2) pa_nil)))))), ?_⟩
    try dsimp only [cxOf, Cx.nox]
    walk_at "go"
    rw [eh]
    refine ⟨_, rfl, by rw [len_stxt]; omega, ?_⟩
    refine g_addS (fits_of (by rw [len_app, len_stxt, len_stxt, tl_stxt, chk_len]; omega)) ?_
    have e2 : stxt (headL n (tl z)) ++ (" " : Str) ++ stxt (chk (tl (stxt (headL n (tl z))))) = stxt (lineL n (tl z)) := by
      refine ext_tl ?_
      rw [tl_append, tl_append, tl_stxt, tl_stxt, tl_stxt, show tl (" " : Str) = [32] by decide +kernel]
      unfold lineL
      simp
    rw [e2]
    exact q
theorem ok_whole_records (T : Txt P K mg a) : FnOk P w K mg base CX0 3 a.f_whole_records a.d_whole_records ["text"] (sp_whole_records K) := by
  refine T.F_whole_records.ok sc_whole_records (fun vs H Q E h => ?len) (fun cdv A outer s H vs Q E hr h => ?body)
  case len => obtain ⟨z, rfl, _⟩ := h; rfl
  case body =>
    obtain ⟨z, rfl, hz, q⟩ := h
    refine ⟨_, (pss_cons (ps_set (i := 1) sc_whole_records.nd rfl (Or.inl rfl) (pe_lst pa_nil))
  (pss_cons (ps_for PassesOwn.never rfl (pi_listK (K := K) rfl (pe_slice (sl_listK (K := K) rfl) (pe_bmK (K := K) rfl PySem.F.plainAttrs_str PySem.F.slot_str_split PySem.F.type_str_split mt_splitN (pv 0) (pa_cons pe_str pa_nil)) po_none (po_some (pe_un un_neg pe_int)))) (pg_name (i := 2) sc_whole_records.nd rfl (Or.inl rfl))
   (pss_cons (ps_set (i := 3) sc_whole_records.nd rfl (Or.inl rfl) (pe_call (ok_read_record T) (hr.mono (by decide)) (by rfl) T.g_read_record T.F_read_record.kp T.b_read_record .nil pass0 (pa_cons (pv 2) pa_nil)))
  (pss_cons (ps_if (PW.pt (pw_or (pt_cmpR op_isNN (pv 3) pe_non (nomark _)) (pw_or1 (PW.pt (pw_and (pt_truthK (K := K) rfl (pv 1) (by intro _; rfl)) (pw_and1 (pt_cmpR op_ne (pe_ix (ix_tupK (K := K) rfl) (pv 3) pe_int (fun _ _ => rfl)) (pe_op op_add (pe_ix (ix_tupK (K := K) rfl) (pe_ix (ix_listK (K := K) rfl) (pv 1) (pe_un un_neg pe_int) (fun _ _ => rfl)) pe_int (fun _ _ => rfl)) pe_int) (nomark _))))))))
   (pss_one ps_break)
   pss_nil)
  (pss_one (ps_expr (pe_bmK (K := K) rfl PySem.F.plainAttrs_list PySem.F.slot_list_append PySem.F.type_list_append mt_append (pv 1) (pa_cons (pv 3) pa_nil)))))))
  (pss_one (ps_ret (pv 1))))), ?_⟩
    try dsimp only [cxOf, Cx.nox]
    walk_at "go"
    rename_i pR hpR pS hpS pC hpC
    rw [cutV_init]
    have hRS : pR ≠ pS := fun y => by rw [← y, upd_same] at hpS; cases hpS
    have hRC : pR ≠ pC := fun y => by rw [← y, upd_ne hRS, upd_same] at hpC; cases hpC
    have hzl : (Txt.split z "\n").dropLast.length ≤ 100000 := by rw [List.length_dropLast]; have := split_count z; omega
    have hlen : ∀ y ∈ (Txt.split z "\n").dropLast, y.length ≤ 100000 := fun y hy => Nat.le_trans (split_le z "\n" y (List.dropLast_subset _ hy)) hz
    have hE0 := ((Evl.Ex.new hpR (o := .lst [])).trans (Evl.Ex.new hpS (o := .lst ((Txt.split z "\n").map V.str)))).trans (Evl.Ex.new hpC (o := .lst ((Txt.split z "\n").dropLast.map V.str)))
    have hR0 : upd (upd (upd H pR (.lst [])) pS (.lst ((Txt.split z "\n").map V.str))) pC (.lst ((Txt.split z "\n").dropLast.map V.str)) pR = some (.lst []) := by rw [upd_ne hRC, upd_ne hRS]; exact upd_same
    have hC0 : upd (upd (upd H pR (.lst [])) pS (.lst ((Txt.split z "\n").map V.str))) pC (.lst ((Txt.split z "\n").dropLast.map V.str)) pC = some (.lst ((Txt.split z "\n").dropLast.map V.str)) := upd_same
    generalize upd (upd (upd H pR (.lst [])) pS (.lst ((Txt.split z "\n").map V.str))) pC (.lst ((Txt.split z "\n").dropLast.map V.str)) = H0 at *
    have q' : ∀ (H' : Hp) (xs : List (Addr × Rcd)), Ex H H' → H' pR = some (.lst (xs.map rcV)) → RcAt K H' xs → xs.map (·.2) = wholeF none ((Txt.split z "\n").dropLast.map tl) → Q (.ref pR) H' := fun H' xs h1 h2 h3 h4 => q pR H' xs hpR h1 h2 h3 h4
    clear hpS hpC hRS
    generalize (Txt.split z "\n").dropLast = zs at *
    refine l_it (walk_list (xs := zs.map V.str)) (fun i σ' H' => ∃ (v2 v3 : Option V) (xs : List (Addr × Rcd)), σ' = [some (.str z), some (.ref pR), v2, v3] ∧ Ex H H' ∧ H' pR = some (.lst (xs.map rcV)) ∧ H' pC = some (.lst (zs.map V.str)) ∧ RcAt K H' xs ∧ xs.length ≤ i ∧ wholeF none (zs.map tl) = xs.map (·.2) ++ wholeF (lastN (xs.map (·.2))) ((zs.map tl).drop i)) ⟨none, none, [], rfl, hE0, hR0, hC0, (fun _ y => nomatch y), Nat.le_refl _, rfl⟩ (fun i σ' H' hi hP => ?_) (fun i x σ' H2b H2 hi hP hY => ?_) (fun σ' H2 hP => ?_)
    · obtain ⟨v2, v3, xs, rfl, hE, hR, hC, _⟩ := hP
      exact .inl (.inl hC)
    · obtain ⟨v2, v3, xs, rfl, hE, hR, hC, hX, hxl, hw⟩ := hP
      obtain ⟨rfl, hxi⟩ := hY
      rw [List.getElem?_map] at hxi
      cases hzi : zs[i]? with
      | none => rw [hzi] at hxi; cases hxi
      | some y =>
        rw [hzi] at hxi
        have ex : V.str y = x := Option.some.inj hxi
        subst ex
        have hmem := List.mem_of_getElem? hzi
        have hd : (zs.map tl).drop i = tl y :: (zs.map tl).drop (i + 1) := drop_consG (by rw [List.getElem?_map, hzi]; rfl)
        rw [hd] at hw
        walk_at "go"
        refine ⟨y, rfl, hlen y hmem, fun hn H3 hE3 => ?_, fun n c hs pN H3 hpN hE3 hA3 => ?_⟩
        · walk_at "go"
          have e : wholeF (lastN (xs.map (·.2))) (tl y :: (zs.map tl).drop (i + 1)) = [] := by unfold wholeF; rw [hn]
          rw [e, List.append_nil] at hw
          show tRet (tVar 1) _ _ _
          walk_at "go"
          exact q' H3 xs (hE.trans hE3) (hE3 _ _ hR) (fun x hx => ex_sqT hE3 (hX x hx)) hw.symm
        · have hX3 : RcAt K H3 xs := fun x hx => ex_sqT hE3 (hX x hx)
          have hR3 := hE3 _ _ hR
          have hC3 := hE3 _ _ hC
          have hN3 : SqT K H3 pN [.int n, .str (stxt c)] := .inl (.inl hA3)
          have hS3 : SqL K H3 pR (xs.map rcV) := .inl (.inl hR3)
          have hE03 := hE.trans hE3
          have hbad : follB (lastN (xs.map (·.2))) n = false → xs.map (·.2) = wholeF none (zs.map tl) := fun hb => by
            have e : wholeF (lastN (xs.map (·.2))) (tl y :: (zs.map tl).drop (i + 1)) = [] := by
              unfold wholeF
              rw [hs]
              show (if follB (lastN (xs.map (·.2))) n = true then _ else _) = _
              rw [hb]
              rfl
            rw [e, List.append_nil] at hw
            exact hw.symm
          have hgood : follB (lastN (xs.map (·.2))) n = true → wholeF none (zs.map tl) = (xs ++ [((pN, (n, c)) : Addr × Rcd)]).map (fun x => x.2) ++ wholeF (lastN ((xs ++ [((pN, (n, c)) : Addr × Rcd)]).map (fun x => x.2))) ((zs.map tl).drop (i + 1)) := fun hb => by
            have e : wholeF (lastN (xs.map (·.2))) (tl y :: (zs.map tl).drop (i + 1)) = (n, c) :: wholeF (some n) ((zs.map tl).drop (i + 1)) := by
              show (match readRec (tl y) with
                | none => []
                | some (r : Rcd) => if follB (lastN (xs.map fun x : Addr × Rcd => x.2)) r.1 = true then r :: wholeF (some r.1) ((zs.map tl).drop (i + 1)) else []) = _
              rw [hs]
              show (if follB (lastN (xs.map (·.2))) n = true then _ else _) = _
              rw [hb]
              rfl
            rw [hw, e, List.map_append, List.map_singleton, lastN_snoc, List.append_assoc]
            rfl
          have hEn : Ex H (upd H3 pR (.lst ((xs ++ [(pN, (n, c))]).map rcV))) := fun b o e => by rw [upd_ne (fun y => by rw [y, hpR] at e; cases e)]; exact hE03 b o e
          have hXn : RcAt K (upd H3 pR (.lst ((xs ++ [(pN, (n, c))]).map rcV))) (xs ++ [(pN, (n, c))]) := fun x hx => by
            rcases List.mem_append.mp hx with hx | hx
            · exact sqT_lst hR3 (hX3 x hx)
            · rw [List.mem_singleton.mp hx]
              exact sqT_lst hR3 hN3
          have hCn : (upd H3 pR (.lst ((xs ++ [(pN, (n, c))]).map rcV))) pC = some (.lst (zs.map V.str)) := by rw [upd_ne (fun y => hRC y.symm)]; exact hC3
          have eA : xs.map rcV ++ [V.ref pN] = (xs ++ [(pN, (n, c))]).map rcV := by rw [List.map_append]; rfl
          have hxl2 : (xs ++ [(pN, (n, c))]).length ≤ i + 1 := by rw [List.length_append]; show xs.length + 1 ≤ i + 1; omega
          have hil := hi
          rw [List.length_map] at hil
          walk_at "go"
          refine g_tru ?_
          walk_at "go"
          refine ⟨_, .inl ⟨_, hS3, rfl⟩, ?_⟩
          show if (!(xs.map rcV).isEmpty) = true then _ else _
          rw [List.isEmpty_map]
          cases hxe : xs.isEmpty with
          | true =>
            refine w_f ?_
            walk_at "go"
            have e0 : xs = [] := List.isEmpty_iff.mp hxe
            rw [eA]
            exact ⟨_, _, xs ++ [(pN, (n, c))], rfl, hEn, upd_same, hCn, hXn, hxl2, hgood (by rw [e0]; rfl)⟩
          | false =>
            refine w_t ?_
            walk_at "go"
            have hne : xs ≠ [] := fun y => by rw [y] at hxe; cases hxe
            have ex := List.dropLast_concat_getLast hne
            generalize xs.getLast hne = x0 at ex
            have hx0 : x0 ∈ xs := by rw [← ex]; exact List.mem_append.mpr (.inr List.mem_cons_self)
            have hat : atI (xs.map rcV) (-1) = some (rcV x0) := by rw [← ex, List.map_append]; exact atI_last _ _
            have hla : lastN (xs.map (·.2)) = some x0.2.1 := by rw [← ex, List.map_append]; exact lastN_snoc
            have h0 := hX3 x0 hx0
            refine g_ixL hS3 hat ?_
            walk_at "go"
            refine w_ndec (fun hne2 => ?_) (fun heq => ?_)
            · show tRet (tVar 1) _ _ _
              walk_at "go"
              refine q' H3 xs hE03 hR3 hX3 (hbad ?_)
              rw [hla]
              exact decide_eq_false hne2
            · walk_at "go"
              rw [eA]
              refine ⟨_, _, xs ++ [(pN, (n, c))], rfl, hEn, upd_same, hCn, hXn, hxl2, hgood ?_⟩
              rw [hla]
              exact decide_eq_true heq
    · obtain ⟨v2, v3, xs, rfl, hE, hR, hC, hX, hxl, hw⟩ := hP
      walk_at "go"
      refine q' H2 xs hE hR hX ?_
      rw [hw, List.drop_of_length_le (by simp)]
      exact (List.append_nil _).symm
theorem ok_whole_length (T : Txt P K mg a) : FnOk P w K mg base CX0 4 a.f_whole_length a.d_whole_length ["text"] (sp_whole_length K) := by
  refine T.F_whole_length.ok sc_whole_length (fun vs H Q E h => ?len) (fun cdv A outer s H vs Q E hr h => ?body)
  case len => obtain ⟨z, rfl, _⟩ := h; rfl
  case body =>
    obtain ⟨z, rfl, hz, q⟩ := h
    refine ⟨_, (pss_one (ps_ret (pe_callB (cr_sumK (K := K) rfl rfl) (by rfl) T.z_sum (by decide +kernel) (pa_cons (pe_lc (own := [("number", 1), ("body", 2)]) (g := gTup K 2 (gCons (gName 1) (gCons (gName 2) gNil))) (tt := tYes) rfl sc_whole_length.nd (pi_listK (K := K) rfl (pe_call (ok_whole_records T) (hr.mono (by decide)) (by rfl) T.g_whole_records T.F_whole_records.kp T.b_whole_records .nil pass0 (pa_cons (pv 0) pa_nil))) (blkOk_by (own := [("number", 1), ("body", 2)]) (N := ["text", "number", "body"]) (sc := defScope s_whole_length) (by decide +kernel)) (fun _ _ _ _ _ => (pg_tupK (K := K) rfl rfl (pgs_cons (pg_name (i := 1) sc_whole_length.nd rfl (Or.inl rfl)) (pgs_cons (pg_name (i := 2) sc_whole_length.nd rfl (Or.inl rfl)) pgs_nil)))) (fun _ _ _ _ _ => pts_nil) (fun _ _ _ _ _ => (pe_callB call_lenSN (by rfl) T.z_len (by decide +kernel) (pa_cons (pe_call (ok_record_text T) (hr.mono (by decide)) (by rfl) T.g_record_text T.F_record_text.kp T.b_record_text .nil pass0 (pa_cons (pv 1) (pa_cons (pv 2) pa_nil))) pa_nil)))) pa_nil)))), ?_⟩
    try dsimp only [cxOf, Cx.nox]
    walk_at "go"
    refine ⟨z, rfl, hz, fun p H1 xs hp hE1 hA hX hw => ?_⟩
    have hS : SqL K H1 p (xs.map rcV) := .inl (.inl hA)
    have hxl : xs.length ≤ 100001 := by
      have h1 := congrArg List.length hw
      have h2 := whole_len (o := none) (ls := linesT z)
      have h3 : (linesT z).length ≤ 100000 := by unfold linesT; rw [List.length_map, List.length_dropLast]; have := split_count z; omega
      rw [List.length_map] at h1
      omega
    walk_at "go"
    refine lc_lst rcV (fun x => V.int (((lineL x.2.1 x.2.2).length + 1 : Nat) : Int)) (0, (0, [])) hS (by omega) (fun x hx H2 e2 R hR => ?_) (fun p2 H2 hp2 hE2 hA2 => ?_)
    · have h2 := ex_sqT e2 (hX x hx)
      have hm : x.2 ∈ wholeF none (linesT z) := by rw [← hw]; exact List.mem_map_of_mem hx
      obtain ⟨l, _, hl⟩ := whole_mem hm
      obtain ⟨xa, n, c⟩ := x
      have h2 : SqT K H2 xa [.int n, .str (stxt c)] := h2
      obtain ⟨n0, n1, n2⟩ := readRec_some (n := n) (c := c) hl
      have ll := lineL_len n c
      have lh := headL_len (body := c) n0 n1 (by omega)
      walk_at "go"
      refine ⟨n, stxt c, rfl, n0, n1, by rw [len_stxt]; omega, fun H3 hE3 => ?_⟩
      rw [tl_stxt]
      have e1 : (stxt (lineL n c ++ [10])).length = (lineL n c).length + 1 := by rw [len_stxt, List.length_append]; rfl
      walk_at "go"
      rw [e1]
      exact hR _ hE3
    · have hL2 : SqL K H2 p2 ((xs.map fun x => (((lineL x.2.1 x.2.2).length + 1 : Nat) : Int)).map V.int) := by rw [List.map_map]; exact .inl (.inl hA2)
      walk_at "go"
      refine g_sum hL2 ?_
      have e : (xs.map fun x => (((lineL x.2.1 x.2.2).length + 1 : Nat) : Int)).sum = sizeR (wholeF none (linesT z)) := by
        rw [← hw]
        unfold sizeR
        rw [List.map_map]
        rfl
      rw [e]
      exact q _ (hE1.trans hE2)
theorem ok__law_drawn (T : Txt P K mg a) : FnOk P w K mg base CX0 2 a.f__law_drawn a.d__law_drawn ["_law_numbers_here", "_law_at", "_law_number"] (sp__law_drawn K) := by
  refine T.F__law_drawn.ok sc__law_drawn (fun vs H Q E h => ?len) (fun cdv A outer s H vs Q E hr h => ?body)
  case len => obtain ⟨l, ns, at_, n, rfl, _⟩ := h; rfl
  case body =>
    obtain ⟨l, ns, at_, n, rfl, hS, ha0, ha1, q⟩ := h
    refine ⟨_, (pss_cons (ps_set (i := 3) sc__law_drawn.nd rfl (Or.inl rfl) (pe_op op_add pe_int (pe_op op_mod (pe_callTy call_intI (by rfl) T.z_int (by decide +kernel) (pa_cons (pe_ix (ix_listK (K := K) rfl) (pv 0) (pv 1) (fun _ _ => rfl)) pa_nil)) pe_int)))
  (pss_cons (ps_set (i := 4) sc__law_drawn.nd rfl (Or.inl rfl) (pe_bmK (K := K) rfl PySem.F.plainAttrs_str PySem.F.slot_str_join PySem.F.type_str_join (mt_joinK (K := K) rfl) pe_str (pa_cons (pe_lc (own := [("_law_k", 5)]) (g := gName 5) (tt := tYes) rfl sc__law_drawn.nd (pi_range1 (by rfl) T.z_range (pa_cons (pv 3) pa_nil)) (blkOk_by (own := [("_law_k", 5)]) (N := ["_law_numbers_here", "_law_at", "_law_number", "_law_size", "_law_body", "_law_k"]) (sc := defScope s__law_drawn) (by decide +kernel)) (fun _ _ _ _ _ => (pg_name (i := 5) sc__law_drawn.nd rfl (Or.inl rfl))) (fun _ _ _ _ _ => pts_nil) (fun _ _ _ _ _ => (pe_call (ok__law_sign T) (hr.mono (by decide)) (by rfl) T.g__law_sign T.F__law_sign.kp T.b__law_sign .nil pass0 (pa_cons (pe_op op_add (pe_op op_mul (pe_ix (ix_listK (K := K) rfl) (pv 0) (pe_op op_add (pv 1) pe_int) (fun _ _ => rfl)) (pe_op op_add (pv 5) pe_int)) (pe_op op_mul (pe_ix (ix_listK (K := K) rfl) (pv 0) (pe_op op_add (pv 1) pe_int) (fun _ _ => rfl)) (pv 5))) pa_nil)))) pa_nil)))
  (pss_one (ps_ret (pe_tup (pa_cons (pv 2) (pa_cons (pv 4) pa_nil))))))), ?_⟩
    try dsimp only [cxOf, Cx.nox]
    walk_at "go"
    have b0 := Int.emod_nonneg (ns.getD at_.toNat 0) (show (20 : Int) ≠ 0 by decide)
    have b1 := Int.emod_lt_of_pos (ns.getD at_.toNat 0) (show (0 : Int) < 20 by decide)
    refine lc_rng (fun i => .str ⟨#[signOf (ns.getD (at_ + 1).toNat 0 * ((i : Int) + 1) + ns.getD (at_ + 2).toNat 0 * (i : Int))]⟩) (by omega) (fun i hi H1 e1 R hR => ?_) (fun p H' hp hE hL => ?_)
    · walk_at "go"
      refine ⟨_, rfl, ?_⟩
      exact hR _ (Evl.Ex.refl _)
    · walk_at "go"
      have hm1 : 1 ≤ (1 + ns.getD at_.toNat 0 % 20).toNat := by omega
      have hm2 : (1 + ns.getD at_.toNat 0 % 20).toNat ≤ 20 := by omega
      generalize (1 + ns.getD at_.toNat 0 % 20).toNat = m at *
      have e0 : ((List.range m).map fun (i : Nat) => V.str ⟨#[signOf (ns.getD (at_ + 1).toNat 0 * ((i : Int) + 1) + ns.getD (at_ + 2).toNat 0 * (i : Int))]⟩) = (((List.range m).map fun (i : Nat) => signOf (ns.getD (at_ + 1).toNat 0 * ((i : Int) + 1) + ns.getD (at_ + 2).toNat 0 * (i : Int))).map fun c => V.str ⟨#[c]⟩) := by
        rw [List.map_map]; rfl
      rw [e0] at hL
      refine g_joinC (.inl (.inl hL)) (by rw [List.length_map, List.length_range]; omega) ?_
      walk_at "go"
      rename_i p2 hp2
      refine q p2 _ _ (hE.trans (Evl.Ex.new hp2)) (by rw [List.length_map, List.length_range]; exact hm1) (by rw [List.length_map, List.length_range]; exact hm2) (fun c hc => ?_) (.inl (.inl upd_same))
      obtain ⟨i, _, rfl⟩ := List.mem_map.mp hc
      exact (sign_at _).2
theorem ok__law_lines (T : Txt P K mg a) : FnOk P w K mg base CX0 4 a.f__law_lines a.d__law_lines ["_law_numbers_here"] (sp__law_lines K) := by
  refine T.F__law_lines.ok sc__law_lines (fun vs H Q E h => ?len) (fun cdv A outer s H vs Q E hr h => ?body)
  case len => obtain ⟨l, ns, rfl, _⟩ := h; rfl
  case body =>
    obtain ⟨l, ns, rfl, hS, hnl, h9, q⟩ := h
    refine ⟨_, (pss_cons (ps_set (i := 1) sc__law_lines.nd rfl (Or.inl rfl) (pe_ix (ix_tupK (K := K) rfl) (pe_tup (pa_cons pe_int (pa_cons (pe_ix (ix_listK (K := K) rfl) (pv 0) pe_int (fun _ _ => rfl)) (pa_cons pe_int pa_nil)))) (pe_op op_mod (pe_callTy call_intI (by rfl) T.z_int (by decide +kernel) (pa_cons (pe_ix (ix_listK (K := K) rfl) (pv 0) pe_int (fun _ _ => rfl)) pa_nil)) pe_int) (fun _ _ => rfl)))
  (pss_cons (ps_set (i := 2) sc__law_lines.nd rfl (Or.inl rfl) (pe_lst pa_nil))
  (pss_cons (ps_for PassesOwn.never rfl (pi_range1 (by rfl) T.z_range (pa_cons (pe_op op_mod (pe_callTy call_intI (by rfl) T.z_int (by decide +kernel) (pa_cons (pe_ix (ix_listK (K := K) rfl) (pv 0) pe_int (fun _ _ => rfl)) pa_nil)) pe_int) pa_nil)) (pg_name (i := 3) sc__law_lines.nd rfl (Or.inl rfl))
   (pss_cons (ps_set (i := 4) sc__law_lines.nd rfl (Or.inl rfl) (pe_call (ok__law_drawn T) (hr.mono (by decide)) (by rfl) T.g__law_drawn T.F__law_drawn.kp T.b__law_drawn .nil pass0 (pa_cons (pv 0) (pa_cons (pe_op op_add pe_int (pe_op op_mul pe_int (pv 3))) (pa_cons (pv 1) pa_nil)))))
  (pss_cons (ps_set (i := 5) sc__law_lines.nd rfl (Or.inl rfl) (pe_call (ok__law_line T) (hr.mono (by decide)) (by rfl) T.g__law_line T.F__law_line.kp T.b__law_line .nil pass0 (pa_cons (pe_ix (ix_tupK (K := K) rfl) (pv 4) pe_int (fun _ _ => rfl)) (pa_cons (pe_ix (ix_tupK (K := K) rfl) (pv 4) pe_int (fun _ _ => rfl)) pa_nil))))
  (pss_cons (ps_set (i := 6) sc__law_lines.nd rfl (Or.inl rfl) (pe_cmpR op_le (pv 1) pe_int (nomark _)))
  (pss_cons (ps_set (i := 7) sc__law_lines.nd rfl (Or.inl rfl) (pe_op op_mod (pe_callTy call_intI (by rfl) T.z_int (by decide +kernel) (pa_cons (pe_ix (ix_listK (K := K) rfl) (pv 0) (pe_op op_add pe_int (pe_op op_mul pe_int (pv 3))) (fun _ _ => rfl)) pa_nil)) pe_int))
  (pss_cons (ps_if (pt_cmpR op_eq (pv 7) pe_int (nomark _))
   (pss_cons (ps_set (i := 5) sc__law_lines.nd rfl (Or.inl rfl) (pe_op op_addSN (pe_slice sl_str (pv 5) po_none (po_some (pe_un un_neg pe_int))) (pe_callTy call_strIN (by rfl) T.z_str (by decide +kernel) (pa_cons (pe_op op_mod (pe_callTy call_intI (by rfl) T.z_int (by decide +kernel) (pa_cons (pe_op op_add (pe_callB call_ordN (by rfl) T.z_ord (by decide +kernel) (pa_cons (pe_ix ix_str (pv 5) (pe_un un_neg pe_int) (fun _ _ => rfl)) pa_nil)) pe_int) pa_nil)) pe_int) pa_nil))))
  (pss_one (ps_set (i := 6) sc__law_lines.nd rfl (Or.inl rfl) pe_bl)))
   pss_nil)
  (pss_cons (ps_if (pt_cmpR op_eq (pv 7) pe_int (nomark _))
   (pss_cons (ps_set (i := 5) sc__law_lines.nd rfl (Or.inl rfl) pe_str)
  (pss_one (ps_set (i := 6) sc__law_lines.nd rfl (Or.inl rfl) pe_bl)))
   pss_nil)
  (pss_cons (ps_expr (pe_bmK (K := K) rfl PySem.F.plainAttrs_list PySem.F.slot_list_append PySem.F.type_list_append mt_append (pv 2) (pa_cons (pe_tup (pa_cons (pv 5) (pa_cons (pv 4) (pa_cons (pv 6) pa_nil)))) pa_nil)))
  (pss_one (ps_set (i := 1) sc__law_lines.nd rfl (Or.inl rfl) (pe_op op_add (pv 1) (pe_ix (ix_tupK (K := K) rfl) (pe_tup (pa_cons pe_int (pa_cons pe_int (pa_cons pe_int (pa_cons pe_int (pa_cons pe_int (pa_cons pe_int (pa_cons pe_int (pa_cons pe_int (pa_cons pe_int pa_nil)))))))))) (pe_op op_mod (pe_callTy call_intI (by rfl) T.z_int (by decide +kernel) (pa_cons (pe_ix (ix_listK (K := K) rfl) (pv 0) (pe_op op_add pe_int (pe_op op_mul pe_int (pv 3))) (fun _ _ => rfl)) pa_nil)) pe_int) (fun _ _ => rfl)))))))))))))
  (pss_one (ps_ret (pv 2)))))), ?_⟩
    try dsimp only [cxOf, Cx.nox]
    walk_at "go"
    rename_i pt hpt
    have b1 := h9.at (Int.toNat 1) (show 1 < ns.length by omega)
    have b0 := h9.at (Int.toNat 0) (show 0 < ns.length by omega)
    obtain ⟨n0, hn0, k0, k1⟩ : ∃ n0 : Int, atI [V.int 0, V.int (ns.getD (Int.toNat 1) 0), V.int 999995] (ns.getD (Int.toNat 2) 0 % 3) = some (.int n0) ∧ 0 ≤ n0 ∧ n0 ≤ 999995 := by
      have c4 : ns.getD (Int.toNat 2) 0 % 3 = 0 ∨ ns.getD (Int.toNat 2) 0 % 3 = 1 ∨ ns.getD (Int.toNat 2) 0 % 3 = 2 := by omega
      rcases c4 with e | e | e <;> rw [e]
      · exact ⟨_, rfl, by decide, by decide⟩
      · exact ⟨_, rfl, b1.1, by omega⟩
      · exact ⟨_, rfl, by decide, by decide⟩
    refine g_ixT (by walk_at "sq") hn0 ?_
    walk_at "go"
    rename_i pF hpF
    have hE1 := Evl.Ex.new hpt (o := .tup [V.int 0, V.int (ns.getD (Int.toNat 1) 0), V.int 999995])
    have hS1 := ex_sqL hE1 hS
    have hF0 : upd (upd H pt (.tup [V.int 0, V.int (ns.getD (Int.toNat 1) 0), V.int 999995])) pF (.lst []) pF = some (.lst []) := upd_same
    have hE2 := Evl.Ex.new hpF (o := .lst [])
    generalize upd H pt (.tup [V.int 0, V.int (ns.getD (Int.toNat 1) 0), V.int 999995]) = H1 at *
    generalize upd H1 pF (.lst []) = H2 at *
    refine l_it walk_range (fun i σ' H' => ∃ (n : Int) (v3 v4 v5 v6 v7 : Option V) (rs : List (Addr × Addr × Rw)), σ' = [some (.ref l), some (.int n), some (.ref pF), v3, v4, v5, v6, v7] ∧ Ex H1 H' ∧ H' pF = some (.lst (rs.map rwV)) ∧ RwAt K H' rs ∧ rs.length = i ∧ (∀ r ∈ rs, LnOk r.2.2 ∧ 0 ≤ r.2.2.2.1.1 ∧ r.2.2.2.1.1 < 10000000 ∧ r.2.2.2.1.2.length ≤ 20 ∧ ∀ c ∈ r.2.2.2.1.2, 32 ≤ c ∧ c ≤ 126) ∧ 0 ≤ n ∧ n ≤ 999995 + 2 * (i : Int)) ⟨n0, _, _, _, _, _, [], rfl, hE2, hF0, (fun _ y => nomatch y), rfl, (fun _ y => nomatch y), k0, by omega⟩ (fun i σ' H' hi hP => trivial) (fun i x σ' H3b H3 hi hP hY => ?_) (fun σ' H3 hP => ?_)
    · obtain ⟨n, v3, v4, v5, v6, v7, rs, rfl, hE, hF, hR, hrl, hro, hn0', hn1'⟩ := hP
      obtain ⟨rfl, rfl⟩ := hY
      rw [show ((fun i : Nat => V.int (0 + (i : Int))) i) = V.int (i : Nat) from congrArg V.int (Int.zero_add _)]
      have hi8 : i < 8 := by have : i < Int.toNat (ns.getD (Int.toNat 0) 0 % 9) := hi; omega
      have hS3 := ex_sqL hE hS1
      walk_at "go"
      refine ⟨l, ns, _, n, rfl, hS3, by omega, by omega, fun pr b H4 hE4 b1 b2 hb hr4 => ?_⟩
      have hF4 := hE4 _ _ hF
      have hS4 := ex_sqL hE4 hS3
      have hR4 : RwAt K H4 rs := fun x hx => ⟨ex_sqT hE4 (hR x hx).1, ex_sqT hE4 (hR x hx).2⟩
      have hE04 := hE.trans hE4
      walk_at "go"
      refine ⟨n, stxt b, rfl, hn0', by omega, by rw [len_stxt]; omega, ?_⟩
      rw [tl_stxt]
      have hln := ln_new hn0' (show n < 10000000 by omega) b1 b2 hb
      walk_at "go"
      refine w_ifSB (fun σ' H' => ∃ (y : List Nat) (rt : Bool), σ' = [some (.ref l), some (.int n), some (.ref pF), some (.int (i : Nat)), some (.ref pr), some (.str (stxt y)), some (.bl rt), some (.int (ns.getD (13 + 5 * (i : Int)).toNat 0 % 12))] ∧ H' = H4 ∧ LnOk (y, (n, b), rt)) (fun hb0 D' hD' => ?_) (fun hb0 D' hD' => ?_) (fun σ' H5 hW => ?_)
      · obtain ⟨d, hd⟩ : ∃ d, (lineL n b).getLast? = some d := by
          cases e : (lineL n b).getLast? with
          | some d => exact ⟨d, rfl⟩
          | none =>
            have := List.getLast?_eq_none_iff.mp e
            have ll := lineL_len n b
            rw [this] at ll
            cases ll
        have hlen : (stxt (lineL n b)).length ≤ 100 := by rw [len_stxt]; exact hln.2.2.1
        have hat : atI (stxt (lineL n b)).cps.toList (-1) = some d := by
          obtain ⟨ys, e2⟩ := List.getLast?_eq_some_iff.mp hd
          rw [e2]
          exact atI_last _ _
        walk_at "go"
        refine g_ixS (fits_of (by omega)) hat ?_
        have hx : (toString (((d : Int) + 1) % 10) : Str) = stxt [48 + (d + 1) % 10] := by
          refine ext_tl ?_
          rw [tl_num' (by omega), tl_stxt, show (((d : Int) + 1) % 10).toNat = (d + 1) % 10 by omega, numL_one _ (by omega)]
        have hc : cutS (stxt (lineL n b)) none (some (-1)) = stxt (lineL n b).dropLast := by
          refine ext_tl ?_
          refine (tl_cut_to_neg _ (k := 1) (by decide) (by decide)).trans ?_
          rw [tl_stxt, tl_stxt, List.dropLast_eq_take]
        walk_at "go"
        rw [hx, hc]
        have l1 : (stxt (lineL n b).dropLast).length ≤ 100 := by rw [len_stxt, List.length_dropLast]; have : (lineL n b).length ≤ 100 := hln.2.2.1; omega
        have l2 : (stxt [48 + (d + 1) % 10]).length = 1 := by rw [len_stxt]; rfl
        refine g_addS (fits_of (by omega)) ?_
        rw [stxt_app]
        walk_at "go"
        exact hD' _ _ ⟨_, _, rfl, rfl, ln_dig hln hd⟩
      · exact hD' _ _ ⟨lineL n b, _, rfl, rfl, hln⟩
      · obtain ⟨y, rt, rfl, rfl, hl1⟩ := hW
        walk_at "go"
        refine w_ifSB (fun σ' H' => ∃ (y : List Nat) (rt : Bool), σ' = [some (.ref l), some (.int n), some (.ref pF), some (.int (i : Nat)), some (.ref pr), some (.str (stxt y)), some (.bl rt), some (.int (ns.getD (13 + 5 * (i : Int)).toNat 0 % 12))] ∧ H' = H5 ∧ LnOk (y, (n, b), rt)) (fun hb0 D' hD' => ?_) (fun hb0 D' hD' => ?_) (fun σ' H5b hW => ?_)
        · walk_at "go"
          exact hD' _ _ ⟨[], _, rfl, rfl, ln_nil⟩
        · exact hD' _ _ ⟨y, rt, rfl, rfl, hl1⟩
        · obtain ⟨y, rt, rfl, rfl, hl2⟩ := hW
          walk_at "go"
          rename_i p1 hp1 p2 hp2
          have hEA := Evl.Ex.new hp1 (o := .tup [V.str (stxt y), V.ref pr, V.bl rt])
          have hFA := hEA _ _ hF4
          have hEB : Ex H1 (upd (upd H5b p1 (.tup [V.str (stxt y), V.ref pr, V.bl rt])) pF (.lst (rs.map rwV ++ [V.ref p1]))) := fun b o e => by
            rw [upd_ne (fun y => by rw [y, hpF] at e; cases e)]
            exact (hE04.trans hEA) b o e
          have hFB : (upd (upd H5b p1 (.tup [V.str (stxt y), V.ref pr, V.bl rt])) pF (.lst (rs.map rwV ++ [V.ref p1]))) pF = some (.lst (rs.map rwV ++ [V.ref p1])) := upd_same
          have hRB : ∀ {q : Addr} {vs : List V}, SqT K H5b q vs → SqT K (upd (upd H5b p1 (.tup [V.str (stxt y), V.ref pr, V.bl rt])) pF (.lst (rs.map rwV ++ [V.ref p1]))) q vs := fun h => sqT_lst hFA (ex_sqT hEA h)
          have hNB : SqT K (upd (upd H5b p1 (.tup [V.str (stxt y), V.ref pr, V.bl rt])) pF (.lst (rs.map rwV ++ [V.ref p1]))) p1 [V.str (stxt y), V.ref pr, V.bl rt] := sqT_lst hFA (.inl (.inl upd_same))
          generalize (upd (upd H5b p1 (.tup [V.str (stxt y), V.ref pr, V.bl rt])) pF (.lst (rs.map rwV ++ [V.ref p1]))) = HB at *
          have hEC := Evl.Ex.new hp2 (o := .tup [V.int 1, V.int 1, V.int 1, V.int 1, V.int 1, V.int 1, V.int 1, V.int 2, V.int 0])
          have hSC := ex_sqL (hEB.trans hEC) hS1
          obtain ⟨u, hu, u0, u1⟩ : ∃ u : Int, atI [V.int 1, V.int 1, V.int 1, V.int 1, V.int 1, V.int 1, V.int 1, V.int 2, V.int 0] (ns.getD (14 + 5 * (i : Int)).toNat 0 % 9) = some (.int u) ∧ 0 ≤ u ∧ u ≤ 2 := by
            have m0 := Int.emod_nonneg (ns.getD (14 + 5 * (i : Int)).toNat 0) (show (9 : Int) ≠ 0 by decide)
            have m1 := Int.emod_lt_of_pos (ns.getD (14 + 5 * (i : Int)).toNat 0) (show (0 : Int) < 9 by decide)
            generalize ns.getD (14 + 5 * (i : Int)).toNat 0 % 9 = v at *
            have c : v = 0 ∨ v = 1 ∨ v = 2 ∨ v = 3 ∨ v = 4 ∨ v = 5 ∨ v = 6 ∨ v = 7 ∨ v = 8 := by omega
            rcases c with rfl | rfl | rfl | rfl | rfl | rfl | rfl | rfl | rfl <;> exact ⟨_, rfl, by decide, by decide⟩
          walk_at "go"
          refine g_ixT (by walk_at "sq") hu ?_
          walk_at "go"
          refine ⟨n + u, _, _, _, _, _, rs ++ [(p1, pr, (y, (n, b), rt))], rfl, hEB.trans hEC, ?_, fun x hx => ?_, ?_, fun x hx => ?_, by omega, by omega⟩
          · rw [hEC _ _ hFB, List.map_append]
            rfl
          · rcases List.mem_append.mp hx with hx | hx
            · exact ⟨ex_sqT hEC (hRB (hR4 x hx).1), ex_sqT hEC (hRB (hR4 x hx).2)⟩
            · rw [List.mem_singleton.mp hx]
              exact ⟨ex_sqT hEC hNB, ex_sqT hEC (hRB hr4)⟩
          · rw [List.length_append, hrl]
            rfl
          · rcases List.mem_append.mp hx with hx | hx
            · exact hro x hx
            · rw [List.mem_singleton.mp hx]
              exact ⟨hl2, hn0', by show n < 10000000; omega, b2, hb⟩
    · obtain ⟨n, v3, v4, v5, v6, v7, rs, rfl, hE, hF, hR, hrl, hro, hn0', hn1'⟩ := hP
      walk_at "go"
      refine q pF rs _ (hE1.trans hE) (.inl (.inl hF)) hR (by have := hrl; omega) fun r hr => ?_
      obtain ⟨h1, h2, h3, h4, h5⟩ := hro r hr
      exact ⟨⟨h1.1, fun z => by have := (h1.2.2.2 _ z).1; omega⟩, h1.2.1, h1.2.2.1, h2, h3, h4, h5⟩
theorem ok_law (T : Txt P K mg a) : FnG P w K mg base CX0 5 a.f_law a.d_law ["_law_script"] (sp_law K) := by
  refine fun_okG T.F_law sc_law (fun vs H Q E h => ?len) (fun cdv A outer s H vs Q E hg hr h => ?body)
  case len => obtain ⟨l, xs, rfl, _⟩ := h; rfl
  case body =>
    obtain ⟨l, xs, rfl, hS, hx, q⟩ := h
    refine ⟨_, (pss_cons (ps_set (i := 1) sc_law.nd rfl (Or.inl rfl) (pe_call (ok__law_numbers T) (hr.mono (by decide)) (by rfl) T.g__law_numbers T.F__law_numbers.kp T.b__law_numbers .nil pass0 (pa_cons (pv 0) (pa_cons pe_int pa_nil))))
  (pss_cons (ps_set (i := 2) sc_law.nd rfl (Or.inl rfl) (pe_call (ok__law_lines T) (hr.mono (by decide)) (by rfl) T.g__law_lines T.F__law_lines.kp T.b__law_lines .nil pass0 (pa_cons (pv 1) pa_nil)))
  (pss_cons (ps_set (i := 3) sc_law.nd rfl (Or.inl rfl) (pe_bmK (K := K) rfl PySem.F.plainAttrs_str PySem.F.slot_str_join PySem.F.type_str_join (mt_joinK (K := K) rfl) pe_str (pa_cons (pe_lc (own := [("_law_line_here", 4), ("_law_record", 5), ("_law_is_right", 6)]) (g := gTup K 3 (gCons (gName 4) (gCons (gName 5) (gCons (gName 6) gNil)))) (tt := tYes) rfl sc_law.nd (pi_listK (K := K) rfl (pv 2)) (blkOk_by (own := [("_law_line_here", 4), ("_law_record", 5), ("_law_is_right", 6)]) (N := ["_law_script", "_law_numbers_here", "_law_lines_here", "_law_text_here", "_law_line_here", "_law_record", "_law_is_right", "_law_expected", "_law_size", "_law_follows", "_law_actual"]) (sc := defScope s_law) (by decide +kernel)) (fun _ _ _ _ _ => (pg_tupK (K := K) rfl rfl (pgs_cons (pg_name (i := 4) sc_law.nd rfl (Or.inl rfl)) (pgs_cons (pg_name (i := 5) sc_law.nd rfl (Or.inl rfl)) (pgs_cons (pg_name (i := 6) sc_law.nd rfl (Or.inl rfl)) pgs_nil))))) (fun _ _ _ _ _ => pts_nil) (fun _ _ _ _ _ => (pe_op op_addSN (pv 4) pe_str))) pa_nil)))
  (pss_cons (ps_if (pt_cmpR op_eq (pe_op op_mod (pe_callTy call_intI (by rfl) T.z_int (by decide +kernel) (pa_cons (pe_ix (ix_listK (K := K) rfl) (pv 1) pe_int (fun _ _ => rfl)) pa_nil)) pe_int) pe_int (nomark _))
   (pss_one (ps_set (i := 3) sc_law.nd rfl (Or.inl rfl) (pe_slice sl_str (pv 3) po_none (po_some (pe_op op_mod (pe_callTy call_intI (by rfl) T.z_int (by decide +kernel) (pa_cons (pe_ix (ix_listK (K := K) rfl) (pv 1) pe_int (fun _ _ => rfl)) pa_nil)) (pe_op op_add (pe_callB call_lenSN (by rfl) T.z_len (by decide +kernel) (pa_cons (pv 3) pa_nil)) pe_int))))))
   (pss_one (ps_if (pt_cmpR op_eq (pe_op op_mod (pe_callTy call_intI (by rfl) T.z_int (by decide +kernel) (pa_cons (pe_ix (ix_listK (K := K) rfl) (pv 1) pe_int (fun _ _ => rfl)) pa_nil)) pe_int) pe_int (nomark _))
   (pss_one (ps_set (i := 3) sc_law.nd rfl (Or.inl rfl) (pe_slice sl_str (pv 3) po_none (po_some (pe_op op_sub (pe_callB call_lenSN (by rfl) T.z_len (by decide +kernel) (pa_cons (pv 3) pa_nil)) pe_int)))))
   pss_nil)))
  (pss_cons (ps_set (i := 7) sc_law.nd rfl (Or.inl rfl) (pe_lst pa_nil))
  (pss_cons (ps_set (i := 8) sc_law.nd rfl (Or.inl rfl) pe_int)
  (pss_cons (ps_for PassesOwn.never rfl (pi_listK (K := K) rfl (pv 2)) (pg_tupK (K := K) rfl rfl (pgs_cons (pg_name (i := 4) sc_law.nd rfl (Or.inl rfl)) (pgs_cons (pg_name (i := 5) sc_law.nd rfl (Or.inl rfl)) (pgs_cons (pg_name (i := 6) sc_law.nd rfl (Or.inl rfl)) pgs_nil))))
   (pss_cons (ps_set (i := 9) sc_law.nd rfl (Or.inl rfl) (pe_or (pe_cmpR op_eq (pe_callB (call_lenK (K := K) rfl) (by rfl) T.z_len (by decide +kernel) (pa_cons (pv 7) pa_nil)) pe_int (nomark _)) (pe_one (pe_cmpR op_eq (pe_ix (ix_tupK (K := K) rfl) (pv 5) pe_int (fun _ _ => rfl)) (pe_op op_add (pe_ix (ix_tupK (K := K) rfl) (pe_ix (ix_listK (K := K) rfl) (pv 7) (pe_un un_neg pe_int) (fun _ _ => rfl)) pe_int (fun _ _ => rfl)) pe_int) (nomark _)))))
  (pss_cons (ps_if (PW.pt (pw_or (pt_not (pt_val (pv 6))) (pw_or (pt_not (pt_val (pv 9))) (pw_or1 (pt_cmpR op_gt (pe_op op_add (pe_op op_add (pv 8) (pe_callB call_lenSN (by rfl) T.z_len (by decide +kernel) (pa_cons (pv 4) pa_nil))) pe_int) (pe_callB call_lenSN (by rfl) T.z_len (by decide +kernel) (pa_cons (pv 3) pa_nil)) (nomark _))))))
   (pss_one ps_break)
   pss_nil)
  (pss_cons (ps_expr (pe_bmK (K := K) rfl PySem.F.plainAttrs_list PySem.F.slot_list_append PySem.F.type_list_append mt_append (pv 7) (pa_cons (pv 5) pa_nil)))
  (pss_one (ps_set (i := 8) sc_law.nd rfl (Or.inl rfl) (pe_op op_add (pe_op op_add (pv 8) (pe_callB call_lenSN (by rfl) T.z_len (by decide +kernel) (pa_cons (pv 4) pa_nil))) pe_int)))))))
  (pss_cons (ps_set (i := 10) sc_law.nd rfl (Or.inl rfl) (pe_call (ok_whole_records T) (hr.mono (by decide)) (by rfl) T.g_whole_records T.F_whole_records.kp T.b_whole_records .nil pass0 (pa_cons (pv 3) pa_nil)))
  (pss_cons (ps_if (PW.pt (pw_or (pt_cmpR op_ne (pe_callB (call_reprD (K := K) rfl hg hr) (by rfl) T.z_repr (by decide +kernel) (pa_cons (pv 10) pa_nil)) (pe_callB (call_reprD (K := K) rfl hg hr) (by rfl) T.z_repr (by decide +kernel) (pa_cons (pv 7) pa_nil)) (nomark _)) (pw_or (pt_cmpR op_ne (pe_call (ok_whole_length T) (hr.mono (by decide)) (by rfl) T.g_whole_length T.F_whole_length.kp T.b_whole_length .nil pass0 (pa_cons (pv 3) pa_nil)) (pv 8) (nomark _)) (pw_or1 (pt_val (pe_callB (call_instK (K := K) rfl) (by rfl) T.z_isinstance (by decide +kernel) (pa_cons (pe_call (ok_whole_length T) (hr.mono (by decide)) (by rfl) T.g_whole_length T.F_whole_length.kp T.b_whole_length .nil pass0 (pa_cons (pv 3) pa_nil)) (pa_cons (pe_bltn (v := .ty "bool") (by rfl) T.z_bool (by decide +kernel) rfl) pa_nil))))))))
   (pss_one (ps_ret pe_bl))
   pss_nil)
  (pss_cons (ps_expr (pe_bmK (K := K) rfl PySem.F.plainAttrs_list PySem.F.slot_list_append PySem.F.type_list_append mt_append (pv 10) (pa_cons (pe_tup (pa_cons pe_int (pa_cons pe_str pa_nil))) pa_nil)))
  (pss_one (ps_ret (pe_cmpR (op_eqDK (K := K) rfl hr.units) (pe_call (ok_whole_records T) (hr.mono (by decide)) (by rfl) T.g_whole_records T.F_whole_records.kp T.b_whole_records .nil pass0 (pa_cons (pv 3) pa_nil)) (pv 7) (nomark _)))))))))))))), ?_⟩
    try dsimp only [cxOf, Cx.nox]
    walk_at "go"
    refine ⟨l, xs, 60, rfl, hS, hx, by decide, by decide, fun pn H1 ns hpn hE1 hA1 hnl hn9 => ?_⟩
    have hS1 : SqL K H1 pn (ns.map V.int) := .inl (.inl hA1)
    walk_at "go"
    refine ⟨pn, ns, rfl, hS1, by omega, hn9, fun pl rs H2 hE2 hL2 hR2 hrl hro => ?_⟩
    have hS2 := ex_sqL hE2 hS1
    have hRo : ∀ r ∈ rs.map (·.2.2), RwOk r := fun r hr => by
      obtain ⟨x, hx, rfl⟩ := List.mem_map.mp hr
      exact (hro x hx).1
    have htl := text_lenR (rs := rs.map (·.2.2)) (fun r hr => by
      obtain ⟨x, hx, rfl⟩ := List.mem_map.mp hr
      exact (hro x hx).2.2.1)
    rw [List.length_map] at htl
    walk_at "go"
    refine lc_lst rwV (fun x => V.str (stxt (x.2.2.1 ++ [10]))) (0, 0, ([], (0, []), false)) hL2 (by omega) (fun x hx H3 e3 R hR => ?_) (fun p3 H3 hp3 hE3 hA3 => ?_)
    · have h1 := ex_sqT e3 (hR2 x hx).1
      have l1 : (stxt x.2.2.1).length ≤ 100 := by rw [len_stxt]; exact (hro x hx).2.2.1
      have l2 : ("\n" : Str).length = 1 := by decide +kernel
      have e : stxt x.2.2.1 ++ ("\n" : Str) = stxt (x.2.2.1 ++ [10]) := ext_tl (by rw [tl_append, tl_stxt, tl_stxt, show tl ("\n" : Str) = [10] by decide +kernel])
      refine g_gtup3 h1 ?_
      walk_at "go"
      rw [e]
      exact hR _ (Evl.Ex.refl _)
    have hZ3 : SqL K H3 p3 ((rs.map fun x => stxt (x.2.2.1 ++ [10])).map V.str) := by rw [List.map_map]; exact .inl (.inl hA3)
    have hS3 := ex_sqL hE3 hS2
    have hL3 := ex_sqL hE3 hL2
    have hR3 : RwAt K H3 rs := fun x hx => ⟨ex_sqT hE3 (hR2 x hx).1, ex_sqT hE3 (hR2 x hx).2⟩
    clear hS hS1 hS2 hL2 hR2 hE1 hE2 hE3 hA1 hA3
    walk_at "go"
    have eY : (rs.map fun x => stxt (x.2.2.1 ++ [10])).map tl = (rs.map (·.2.2)).map fun r => r.1 ++ [10] := by
      rw [List.map_map, List.map_map]
      exact List.map_congr_left fun x _ => tl_stxt _
    have eJ : Txt.join "" (rs.map fun x => stxt (x.2.2.1 ++ [10])) = stxt (textR (rs.map (·.2.2))) := ext_tl (by rw [tl_glue, eY, tl_stxt]; rfl)
    have eS : ((rs.map fun x => stxt (x.2.2.1 ++ [10])).map (·.length)).sum = (textR (rs.map (·.2.2))).length := by
      have e1 : (rs.map fun x => stxt (x.2.2.1 ++ [10])).map (·.length) = ((rs.map fun x => stxt (x.2.2.1 ++ [10])).map tl).map List.length := by
        rw [List.map_map, List.map_map, List.map_map]
        exact List.map_congr_left fun x _ => len_tl _
      rw [e1, eY]
      exact (List.length_flatten ..).symm
    refine g_join hZ3 (by rw [eS, show ("" : Str).length = 0 from rfl, Nat.mul_zero]; omega) ?_
    rw [eJ]
    have hrl2 : (rs.map (·.2.2)).length = rs.length := List.length_map ..
    have n4 := hn9.at (Int.toNat 4) (show 4 < ns.length by omega)
    have hTl : (stxt (textR (rs.map (·.2.2)))).length = (textR (rs.map (·.2.2))).length := len_stxt _
    walk_at "go"
    refine w_ifSB (fun σ' H' => ∃ m : Nat, m ≤ (textR (rs.map (·.2.2))).length ∧ σ' = [some (.ref l), some (.ref pn), some (.ref pl), some (.str (stxt ((textR (rs.map (·.2.2))).take m))), none, none, none, none, none, none, none] ∧ H' = H3) (fun hb0 D' hD' => ?_) (fun hb0 D' hD' => ?_) (fun σ' H4 hW => ?_)
    · have m0 := Int.emod_nonneg (ns.getD (Int.toNat 4) 0) (show (((stxt (textR (rs.map (·.2.2)))).length : Int) + 1) ≠ 0 by omega)
      have m1 := Int.emod_lt_of_pos (ns.getD (Int.toNat 4) 0) (show 0 < (((stxt (textR (rs.map (·.2.2)))).length : Int) + 1) by omega)
      walk_at "go"
      refine hD' _ _ ⟨(ns.getD (Int.toNat 4) 0 % ((stxt (textR (rs.map (·.2.2)))).length + 1)).toNat, by omega, ?_, rfl⟩
      have e : cutS (stxt (textR (rs.map (·.2.2)))) none (some (ns.getD (Int.toNat 4) 0 % ((stxt (textR (rs.map (·.2.2)))).length + 1))) = stxt ((textR (rs.map (·.2.2))).take (ns.getD (Int.toNat 4) 0 % ((stxt (textR (rs.map (·.2.2)))).length + 1)).toNat) := ext_tl (by rw [tl_cut_to _ m0, tl_stxt, tl_stxt])
      rw [e]
      rfl
    · walk_at "go"
      refine w_ifSB (fun σ' H' => ∃ m : Nat, m ≤ (textR (rs.map (·.2.2))).length ∧ σ' = [some (.ref l), some (.ref pn), some (.ref pl), some (.str (stxt ((textR (rs.map (·.2.2))).take m))), none, none, none, none, none, none, none] ∧ H' = H3) (fun hb0 D2 hD2 => ?_) (fun hb0 D2 hD2 => ?_) hD'
      · walk_at "go"
        by_cases h0 : (textR (rs.map (·.2.2))).length = 0
        · have e0 : textR (rs.map (·.2.2)) = [] := List.eq_nil_of_length_eq_zero h0
          refine hD2 _ _ ⟨0, Nat.zero_le _, ?_, rfl⟩
          rw [e0]
          rfl
        · refine hD2 _ _ ⟨((stxt (textR (rs.map (·.2.2)))).length - 1 : Int).toNat, by omega, ?_, rfl⟩
          have e : cutS (stxt (textR (rs.map (·.2.2)))) none (some ((stxt (textR (rs.map (·.2.2)))).length - 1)) = stxt ((textR (rs.map (·.2.2))).take ((stxt (textR (rs.map (·.2.2)))).length - 1 : Int).toNat) := ext_tl (by rw [tl_cut_to _ (by omega), tl_stxt, tl_stxt])
          rw [e]
          rfl
      · refine hD2 _ _ ⟨(textR (rs.map (·.2.2))).length, Nat.le_refl _, ?_, rfl⟩
        rw [List.take_of_length_le (Nat.le_refl _)]
        rfl
    · obtain ⟨m, hm, rfl, rfl⟩ := hW
      walk_at "go"
      rename_i pE hpE
      have hEe := Evl.Ex.new hpE (o := .lst [])
      have hA5 : (upd H4 pE (.lst [])) pE = some (.lst []) := upd_same
      have hzl : (stxt ((textR (rs.map (·.2.2))).take m)).length = m := by rw [len_stxt, List.length_take, Nat.min_eq_left hm]
      have hm9 : m ≤ 100000 := by omega
      generalize upd H4 pE (.lst []) = H5 at *
      refine l_itW (walk_list (xs := rs.map rwV)) (fun i σ' H' => ∃ (v4 v5 v6 v9 : Option V) (ys : List (Addr × Rcd)) (sz : Nat), σ' = [some (.ref l), some (.ref pn), some (.ref pl), some (.str (stxt ((textR (rs.map (·.2.2))).take m))), v4, v5, v6, some (.ref pE), some (.int sz), v9, none] ∧ Ex H4 H' ∧ H' pE = some (.lst (ys.map rcV)) ∧ RcAt K H' ys ∧ ys.length ≤ i ∧ sz ≤ 101 * i ∧ (sz : Int) = sizeR (ys.map (·.2)) ∧ expF m none 0 (rs.map (·.2.2)) = ys.map (·.2) ++ expF m (lastN (ys.map (·.2))) sz ((rs.map (·.2.2)).drop i))
        (fun σ' H' => ∃ (v4 v5 v6 v9 : Option V) (ys : List (Addr × Rcd)) (sz : Nat), σ' = [some (.ref l), some (.ref pn), some (.ref pl), some (.str (stxt ((textR (rs.map (·.2.2))).take m))), v4, v5, v6, some (.ref pE), some (.int sz), v9, none] ∧ Ex H4 H' ∧ H' pE = some (.lst (ys.map rcV)) ∧ RcAt K H' ys ∧ ys.length ≤ 8 ∧ (sz : Int) = sizeR (ys.map (·.2)) ∧ expF m none 0 (rs.map (·.2.2)) = ys.map (·.2))
        ⟨_, _, _, _, [], 0, rfl, hEe, hA5, (fun _ y => nomatch y), Nat.le_refl _, Nat.zero_le _, rfl, rfl⟩ (fun i σ' H' hi hP => ?_) (fun i x σ' H6b H6 hi hP hY D' hN hB => ?_) (fun σ' H6 hP => ?_) (fun σ' H6 hW => ?_)
      · obtain ⟨v4, v5, v6, v9, ys, sz, rfl, hE, _⟩ := hP
        exact ex_sqL hE hL3
      · obtain ⟨v4, v5, v6, v9, ys, sz, rfl, hE, hA, hX, hyl, hsz, hss, hw⟩ := hP
        obtain ⟨rfl, hxi⟩ := hY
        rw [List.getElem?_map] at hxi
        cases hri : rs[i]? with
        | none => rw [hri] at hxi; cases hxi
        | some x0 =>
          rw [hri] at hxi
          have ex : rwV x0 = x := Option.some.inj hxi
          subst ex
          have hmem := List.mem_of_getElem? hri
          have hd : (rs.map (·.2.2)).drop i = x0.2.2 :: (rs.map (·.2.2)).drop (i + 1) := drop_consG (by rw [List.getElem?_map, hri]; rfl)
          rw [hd] at hw
          have hil := hi
          rw [List.length_map] at hil
          obtain ⟨hk1, hk2, hk3, hk4, hk5, hk6, hk7⟩ := hro x0 hmem
          have h61 := ex_sqT hE (hR3 x0 hmem).1
          have h62 := ex_sqT hE (hR3 x0 hmem).2
          obtain ⟨pa, pb, lin, ⟨nn, bb⟩, rt⟩ := x0
          have h61 : SqT K H6 pa [.str (stxt lin), .ref pb, .bl rt] := h61
          have h62 : SqT K H6 pb [.int nn, .str (stxt bb)] := h62
          have hk2 : rt = true → lin = lineL nn bb := hk2
          have hk3 : lin.length ≤ 100 := hk3
          have hYs : SqL K H6 pE (ys.map rcV) := .inl (.inl hA)
          have hll : (stxt lin).length = lin.length := len_stxt _
          have hw : expF m none 0 (rs.map (·.2.2)) = ys.map (·.2) ++ (if (rt && follB (lastN (ys.map (·.2))) nn && decide (sz + lin.length + 1 ≤ m)) = true then (nn, bb) :: expF m (some nn) (sz + lin.length + 1) ((rs.map (·.2.2)).drop (i + 1)) else []) := hw
          refine g_gtup3 h61 ?_
          walk_at "go"
          refine w_dec (fun hy0 => ?_) (fun hy0 => ?_)
          · have e1 : ys = [] := List.eq_nil_of_length_eq_zero (by rw [List.length_map] at hy0; omega)
            have hf : follB (lastN (ys.map (·.2))) nn = true := by rw [e1]; rfl
            walk_at "go"
            cases rt with
            | false =>
              refine w_t ?_
              exact hB _ _ ⟨_, _, _, _, ys, sz, rfl, hE, hA, hX, by omega, hss, hw.trans (List.append_nil _)⟩
            | true =>
              refine w_f ?_
              walk_at "go"
              refine w_dec (fun h8 => ?_) (fun h8 => ?_)
              · have e0 : decide (sz + lin.length + 1 ≤ m) = false := decide_eq_false (by omega)
                rw [e0, Bool.and_false] at hw
                exact hB _ _ ⟨_, _, _, _, ys, sz, rfl, hE, hA, hX, by omega, hss, hw.trans (List.append_nil _)⟩
              · have e0 : decide (sz + lin.length + 1 ≤ m) = true := decide_eq_true (by omega)
                rw [e0, hf] at hw
                have hw : expF m none 0 (rs.map (·.2.2)) = ys.map (·.2) ++ (nn, bb) :: expF m (some nn) (sz + lin.length + 1) ((rs.map (·.2.2)).drop (i + 1)) := hw
                have eA : ys.map rcV ++ [V.ref pb] = (ys ++ [((pb, (nn, bb)) : Addr × Rcd)]).map rcV := by rw [List.map_append]; rfl
                walk_at "go"
                rw [eA]
                have eZ : (sz : Int) + ((stxt lin).length : Int) + 1 = ((sz + lin.length + 1 : Nat) : Int) := by omega
                rw [eZ]
                refine hN _ _ ⟨_, _, _, _, ys ++ [((pb, (nn, bb)) : Addr × Rcd)], sz + lin.length + 1, rfl, fun b o e => ?_, upd_same, fun x hx => ?_, ?_, by omega, ?_, ?_⟩
                · rw [upd_ne (fun y => by rw [y, hpE] at e; cases e)]
                  exact hE b o e
                · rcases List.mem_append.mp hx with hx | hx
                  · exact sqT_lst hA (hX x hx)
                  · rw [List.mem_singleton.mp hx]
                    exact sqT_lst hA h62
                · rw [List.length_append]
                  show ys.length + 1 ≤ i + 1
                  omega
                · rw [List.map_append, List.map_singleton, sizeR_snoc, ← hss, hk2 rfl]
                  show _ = (sz : Int) + (((lineL nn bb).length + 1 : Nat) : Int)
                  omega
                · rw [hw, List.map_append, List.map_singleton, lastN_snoc, List.append_assoc]
                  rfl
          · have hne : ys ≠ [] := fun y => hy0 (by rw [y]; rfl)
            have ex := List.dropLast_concat_getLast hne
            generalize ys.getLast hne = y0 at ex
            have hy0m : y0 ∈ ys := by rw [← ex]; exact List.mem_append.mpr (.inr List.mem_cons_self)
            have hat : atI (ys.map rcV) (-1) = some (rcV y0) := by rw [← ex, List.map_append]; exact atI_last _ _
            have hla : lastN (ys.map (·.2)) = some y0.2.1 := by rw [← ex, List.map_append]; exact lastN_snoc
            have h0 := hX y0 hy0m
            walk_at "go"
            refine g_ixL hYs hat ?_
            walk_at "go"
            cases rt with
            | false =>
              refine w_t ?_
              exact hB _ _ ⟨_, _, _, _, ys, sz, rfl, hE, hA, hX, by omega, hss, hw.trans (List.append_nil _)⟩
            | true =>
              refine w_f ?_
              walk_at "go"
              refine w_ndec (fun hne2 => ?_) (fun heq => ?_)
              · have e0 : follB (lastN (ys.map (·.2))) nn = false := by rw [hla]; exact decide_eq_false hne2
                rw [e0] at hw
                exact hB _ _ ⟨_, _, _, _, ys, sz, rfl, hE, hA, hX, by omega, hss, hw.trans (List.append_nil _)⟩
              have hf : follB (lastN (ys.map (·.2))) nn = true := by rw [hla]; exact decide_eq_true heq
              walk_at "go"
              refine w_dec (fun h8 => ?_) (fun h8 => ?_)
              · have e0 : decide (sz + lin.length + 1 ≤ m) = false := decide_eq_false (by omega)
                rw [e0, Bool.and_false] at hw
                exact hB _ _ ⟨_, _, _, _, ys, sz, rfl, hE, hA, hX, by omega, hss, hw.trans (List.append_nil _)⟩
              · have e0 : decide (sz + lin.length + 1 ≤ m) = true := decide_eq_true (by omega)
                rw [e0, hf] at hw
                have hw : expF m none 0 (rs.map (·.2.2)) = ys.map (·.2) ++ (nn, bb) :: expF m (some nn) (sz + lin.length + 1) ((rs.map (·.2.2)).drop (i + 1)) := hw
                have eA : ys.map rcV ++ [V.ref pb] = (ys ++ [((pb, (nn, bb)) : Addr × Rcd)]).map rcV := by rw [List.map_append]; rfl
                walk_at "go"
                rw [eA]
                have eZ : (sz : Int) + ((stxt lin).length : Int) + 1 = ((sz + lin.length + 1 : Nat) : Int) := by omega
                rw [eZ]
                refine hN _ _ ⟨_, _, _, _, ys ++ [((pb, (nn, bb)) : Addr × Rcd)], sz + lin.length + 1, rfl, fun b o e => ?_, upd_same, fun x hx => ?_, ?_, by omega, ?_, ?_⟩
                · rw [upd_ne (fun y => by rw [y, hpE] at e; cases e)]
                  exact hE b o e
                · rcases List.mem_append.mp hx with hx | hx
                  · exact sqT_lst hA (hX x hx)
                  · rw [List.mem_singleton.mp hx]
                    exact sqT_lst hA h62
                · rw [List.length_append]
                  show ys.length + 1 ≤ i + 1
                  omega
                · rw [List.map_append, List.map_singleton, sizeR_snoc, ← hss, hk2 rfl]
                  show _ = (sz : Int) + (((lineL nn bb).length + 1 : Nat) : Int)
                  omega
                · rw [hw, List.map_append, List.map_singleton, lastN_snoc, List.append_assoc]
                  rfl
      · obtain ⟨v4, v5, v6, v9, ys, sz, rfl, hE, hA, hX, hyl, hsz, hss, hw⟩ := hP
        refine ⟨v4, v5, v6, v9, ys, sz, rfl, hE, hA, hX, by rw [List.length_map] at hyl; omega, hss, ?_⟩
        rw [hw, List.drop_of_length_le (by simp)]
        exact List.append_nil _
      · obtain ⟨v4, v5, v6, v9, ys, sz, rfl, hE, hA, hX, hyl, hss, hw⟩ := hW
        have hYs : SqL K H6 pE (ys.map rcV) := .inl (.inl hA)
        have hwl := whole_law hRo hm (z := stxt ((textR (rs.map (·.2.2))).take m)) (tl_stxt _)
        rw [hw] at hwl
        walk_at "go"
        refine ⟨_, rfl, by omega, fun pa H7 xs hpa hE7 hA7 hX7 hw7 => ?_⟩
        rw [hwl] at hw7
        have hYs7 := ex_sqL hE7 hYs
        have hXs7 : SqL K H7 pa (xs.map rcV) := .inl (.inl hA7)
        have hX7b : RcAt K H7 ys := fun x hx => ex_sqT hE7 (hX x hx)
        have hZs : ∀ r ∈ ys.map (·.2), RcS r := fun r hr => by
          rw [← hw] at hr
          obtain ⟨x, hx, rfl⟩ := expF_mem hr
          obtain ⟨x0, hx0, rfl⟩ := List.mem_map.mp hx
          obtain ⟨_, _, _, k1, k2, k3, k4⟩ := hro x0 hx0
          exact ⟨k1, k2, Nat.le_trans k3 (by decide), k4⟩
        obtain ⟨f1, f2, f3, f4, f5⟩ := rcD_facts hZs (by rw [List.length_map]; omega)
        have d1 := dp_rc hXs7 hX7
        rw [hw7] at d1
        have d2 := dp_rc hYs7 hX7b
        walk_at "go"
        refine g_reprD d1 f1 f2 f3 f4 ?_
        walk_at "go"
        refine g_reprD d2 f1 f2 f3 f4 ?_
        walk_at "go"
        refine w_ndec (fun y => absurd rfl y) (fun _ => ?_)
        walk_at "go"
        refine ⟨_, rfl, by omega, fun H8 hE8 => ?_⟩
        rw [hwl, ← hss]
        walk_at "go"
        refine w_ndec (fun y => absurd rfl y) (fun _ => ?_)
        walk_at "go"
        refine ⟨_, rfl, by omega, fun H9 hE9 => ?_⟩
        have hA9 := hE9 _ _ (hE8 _ _ hA7)
        have hYs9 := ex_sqL hE9 (ex_sqL hE8 hYs7)
        have hxl9 : xs.length ≤ 8 := by have h1 := congrArg List.length hw7; rw [List.length_map, List.length_map] at h1; omega
        walk_at "go"
        rename_i p1 hp1
        have hEt := Evl.Ex.new hp1 (o := .tup [V.int 0, V.str "x"])
        have hAt := hEt _ _ hA9
        have hEp : pE ≠ pa := fun y => by rw [← y, hA] at hpa; cases hpa
        have hYb : (upd (upd H9 p1 (.tup [V.int 0, V.str "x"])) pa (.lst (xs.map rcV ++ [V.ref p1]))) pE = some (.lst (ys.map rcV)) := by rw [upd_ne hEp]; exact hEt _ _ (hE9 _ _ (hE8 _ _ (hE7 _ _ hA)))
        have hXb : RcAt K (upd (upd H9 p1 (.tup [V.int 0, V.str "x"])) pa (.lst (xs.map rcV ++ [V.ref p1]))) ys := fun x hx => sqT_lst hAt (ex_sqT hEt (ex_sqT hE9 (ex_sqT hE8 (hX7b x hx))))
        generalize upd (upd H9 p1 (.tup [V.int 0, V.str "x"])) pa (.lst (xs.map rcV ++ [V.ref p1])) = HB at *
        refine ⟨_, rfl, by omega, fun pw H11 ws hpw hE11 hA11 hX11 hw11 => ?_⟩
        rw [hwl] at hw11
        have d3 := dp_rc (.inl (.inl hA11)) hX11
        rw [hw11] at d3
        have d4 := dp_rc (ex_sqL hE11 (.inl (.inl hYb))) (fun x hx => ex_sqT hE11 (hXb x hx))
        walk_at "go"
        exact g_eqSame _ d3 d4 f5 (q _)
end
theorem all_mk {l : PySem.W.OpenLaw} {w : World} {K : PySem.W.Frag} {h : Heap} {mg : Str → Option Value} {fa f0 f1 f2 f3 f4 f5 f6 f7 f8 f9 f10 f11 f12 f13 f14 f15 f16 : Addr} (X : K.In h) (G : h.Ns mainGlobals mg) (hfa : mg "law" = some (.ref fa))
    {od0 an0 od1 an1 od2 an2 od3 an3 od4 an4 od5 an5 od6 an6 od7 an7 od8 an8 od9 an9 od10 an10 od11 an11 od12 an12 od13 an13 od14 an14 od15 an15 od16 an16 : Option Addr} {sl0 sl1 sl2 sl3 sl4 sl5 sl6 sl7 sl8 sl9 sl10 sl11 sl12 sl13 sl14 sl15 sl16 : Array (Option Value)} {oc0 kV0 dc0 pm0 cd0 ct0 oc1 kV1 dc1 pm1 cd1 ct1 oc2 kV2 dc2 pm2 cd2 ct2 oc3 kV3 dc3 pm3 cd3 ct3 oc4 kV4 dc4 pm4 cd4 ct4 oc5 kV5 dc5 pm5 cd5 ct5 oc6 kV6 dc6 pm6 cd6 ct6 oc7 kV7 dc7 pm7 cd7 ct7 oc8 kV8 dc8 pm8 cd8 ct8 oc9 kV9 dc9 pm9 cd9 ct9 oc10 kV10 dc10 pm10 cd10 ct10 oc11 kV11 dc11 pm11 cd11 ct11 oc12 kV12 dc12 pm12 cd12 ct12 oc13 kV13 dc13 pm13 cd13 ct13 oc14 kV14 dc14 pm14 cd14 ct14 oc15 kV15 dc15 pm15 cd15 ct15 oc16 kV16 dc16 pm16 cd16 ct16 : Value}
    (a0 : PySem.W.nsIn K mainGlobals "read_number" = some (some (.ref f0))) (l0 : K.lookup f0 = some ⟨oc0, od0, .func (PySem.W.fnOf "read_number" "read_number" (defArgs s_read_number) (defBody s_read_number) (defScope s_read_number) .none kV0 dc0 pm0 an0 cd0 ct0), sl0⟩) (c0 : PySem.W.codeIn K cd0 "read_number" = true) (k0 : PySem.W.keepIn K (.ref f0) = true)
    (a1 : PySem.W.nsIn K mainGlobals "is_plain" = some (some (.ref f1))) (l1 : K.lookup f1 = some ⟨oc1, od1, .func (PySem.W.fnOf "is_plain" "is_plain" (defArgs s_is_plain) (defBody s_is_plain) (defScope s_is_plain) .none kV1 dc1 pm1 an1 cd1 ct1), sl1⟩) (c1 : PySem.W.codeIn K cd1 "is_plain" = true) (k1 : PySem.W.keepIn K (.ref f1) = true)
    (a2 : PySem.W.nsIn K mainGlobals "check_digits" = some (some (.ref f2))) (l2 : K.lookup f2 = some ⟨oc2, od2, .func (PySem.W.fnOf "check_digits" "check_digits" (defArgs s_check_digits) (defBody s_check_digits) (defScope s_check_digits) .none kV2 dc2 pm2 an2 cd2 ct2), sl2⟩) (c2 : PySem.W.codeIn K cd2 "check_digits" = true) (k2 : PySem.W.keepIn K (.ref f2) = true)
    (a3 : PySem.W.nsIn K mainGlobals "record_line" = some (some (.ref f3))) (l3 : K.lookup f3 = some ⟨oc3, od3, .func (PySem.W.fnOf "record_line" "record_line" (defArgs s_record_line) (defBody s_record_line) (defScope s_record_line) .none kV3 dc3 pm3 an3 cd3 ct3), sl3⟩) (c3 : PySem.W.codeIn K cd3 "record_line" = true) (k3 : PySem.W.keepIn K (.ref f3) = true)
    (a4 : PySem.W.nsIn K mainGlobals "record_text" = some (some (.ref f4))) (l4 : K.lookup f4 = some ⟨oc4, od4, .func (PySem.W.fnOf "record_text" "record_text" (defArgs s_record_text) (defBody s_record_text) (defScope s_record_text) .none kV4 dc4 pm4 an4 cd4 ct4), sl4⟩) (c4 : PySem.W.codeIn K cd4 "record_text" = true) (k4 : PySem.W.keepIn K (.ref f4) = true)
    (a5 : PySem.W.nsIn K mainGlobals "read_record" = some (some (.ref f5))) (l5 : K.lookup f5 = some ⟨oc5, od5, .func (PySem.W.fnOf "read_record" "read_record" (defArgs s_read_record) (defBody s_read_record) (defScope s_read_record) .none kV5 dc5 pm5 an5 cd5 ct5), sl5⟩) (c5 : PySem.W.codeIn K cd5 "read_record" = true) (k5 : PySem.W.keepIn K (.ref f5) = true)
    (a6 : PySem.W.nsIn K mainGlobals "whole_records" = some (some (.ref f6))) (l6 : K.lookup f6 = some ⟨oc6, od6, .func (PySem.W.fnOf "whole_records" "whole_records" (defArgs s_whole_records) (defBody s_whole_records) (defScope s_whole_records) .none kV6 dc6 pm6 an6 cd6 ct6), sl6⟩) (c6 : PySem.W.codeIn K cd6 "whole_records" = true) (k6 : PySem.W.keepIn K (.ref f6) = true)
    (a7 : PySem.W.nsIn K mainGlobals "whole_length" = some (some (.ref f7))) (l7 : K.lookup f7 = some ⟨oc7, od7, .func (PySem.W.fnOf "whole_length" "whole_length" (defArgs s_whole_length) (defBody s_whole_length) (defScope s_whole_length) .none kV7 dc7 pm7 an7 cd7 ct7), sl7⟩) (c7 : PySem.W.codeIn K cd7 "whole_length" = true) (k7 : PySem.W.keepIn K (.ref f7) = true)
    (a8 : PySem.W.nsIn K mainGlobals "_law_row" = some (some (.ref f8))) (l8 : K.lookup f8 = some ⟨oc8, od8, .func (PySem.W.fnOf "_law_row" "_law_row" (defArgs s__law_row) (defBody s__law_row) (defScope s__law_row) .none kV8 dc8 pm8 an8 cd8 ct8), sl8⟩) (c8 : PySem.W.codeIn K cd8 "_law_row" = true) (k8 : PySem.W.keepIn K (.ref f8) = true)
    (a9 : PySem.W.nsIn K mainGlobals "_law_numbers" = some (some (.ref f9))) (l9 : K.lookup f9 = some ⟨oc9, od9, .func (PySem.W.fnOf "_law_numbers" "_law_numbers" (defArgs s__law_numbers) (defBody s__law_numbers) (defScope s__law_numbers) .none kV9 dc9 pm9 an9 cd9 ct9), sl9⟩) (c9 : PySem.W.codeIn K cd9 "_law_numbers" = true) (k9 : PySem.W.keepIn K (.ref f9) = true)
    (a10 : PySem.W.nsIn K mainGlobals "_law_three" = some (some (.ref f10))) (l10 : K.lookup f10 = some ⟨oc10, od10, .func (PySem.W.fnOf "_law_three" "_law_three" (defArgs s__law_three) (defBody s__law_three) (defScope s__law_three) .none kV10 dc10 pm10 an10 cd10 ct10), sl10⟩) (c10 : PySem.W.codeIn K cd10 "_law_three" = true) (k10 : PySem.W.keepIn K (.ref f10) = true)
    (a11 : PySem.W.nsIn K mainGlobals "_law_digits" = some (some (.ref f11))) (l11 : K.lookup f11 = some ⟨oc11, od11, .func (PySem.W.fnOf "_law_digits" "_law_digits" (defArgs s__law_digits) (defBody s__law_digits) (defScope s__law_digits) .none kV11 dc11 pm11 an11 cd11 ct11), sl11⟩) (c11 : PySem.W.codeIn K cd11 "_law_digits" = true) (k11 : PySem.W.keepIn K (.ref f11) = true)
    (a12 : PySem.W.nsIn K mainGlobals "_law_line" = some (some (.ref f12))) (l12 : K.lookup f12 = some ⟨oc12, od12, .func (PySem.W.fnOf "_law_line" "_law_line" (defArgs s__law_line) (defBody s__law_line) (defScope s__law_line) .none kV12 dc12 pm12 an12 cd12 ct12), sl12⟩) (c12 : PySem.W.codeIn K cd12 "_law_line" = true) (k12 : PySem.W.keepIn K (.ref f12) = true)
    (a13 : PySem.W.nsIn K mainGlobals "_law_sign" = some (some (.ref f13))) (l13 : K.lookup f13 = some ⟨oc13, od13, .func (PySem.W.fnOf "_law_sign" "_law_sign" (defArgs s__law_sign) (defBody s__law_sign) (defScope s__law_sign) .none kV13 dc13 pm13 an13 cd13 ct13), sl13⟩) (c13 : PySem.W.codeIn K cd13 "_law_sign" = true) (k13 : PySem.W.keepIn K (.ref f13) = true)
    (a14 : PySem.W.nsIn K mainGlobals "_law_drawn" = some (some (.ref f14))) (l14 : K.lookup f14 = some ⟨oc14, od14, .func (PySem.W.fnOf "_law_drawn" "_law_drawn" (defArgs s__law_drawn) (defBody s__law_drawn) (defScope s__law_drawn) .none kV14 dc14 pm14 an14 cd14 ct14), sl14⟩) (c14 : PySem.W.codeIn K cd14 "_law_drawn" = true) (k14 : PySem.W.keepIn K (.ref f14) = true)
    (a15 : PySem.W.nsIn K mainGlobals "_law_lines" = some (some (.ref f15))) (l15 : K.lookup f15 = some ⟨oc15, od15, .func (PySem.W.fnOf "_law_lines" "_law_lines" (defArgs s__law_lines) (defBody s__law_lines) (defScope s__law_lines) .none kV15 dc15 pm15 an15 cd15 ct15), sl15⟩) (c15 : PySem.W.codeIn K cd15 "_law_lines" = true) (k15 : PySem.W.keepIn K (.ref f15) = true)
    (a16 : PySem.W.nsIn K mainGlobals "law" = some (some (.ref f16))) (l16 : K.lookup f16 = some ⟨oc16, od16, .func (PySem.W.fnOf "law" "law" (defArgs s_law) (defBody s_law) (defScope s_law) .none kV16 dc16 pm16 an16 cd16 ct16), sl16⟩) (c16 : PySem.W.codeIn K cd16 "law" = true) (k16 : PySem.W.keepIn K (.ref f16) = true)
    (z_abs : PySem.W.nsIn K mainGlobals "abs" = some none)
    (z_all : PySem.W.nsIn K mainGlobals "all" = some none)
    (z_bool : PySem.W.nsIn K mainGlobals "bool" = some none)
    (z_enumerate : PySem.W.nsIn K mainGlobals "enumerate" = some none)
    (z_int : PySem.W.nsIn K mainGlobals "int" = some none)
    (z_isinstance : PySem.W.nsIn K mainGlobals "isinstance" = some none)
    (z_len : PySem.W.nsIn K mainGlobals "len" = some none)
    (z_max : PySem.W.nsIn K mainGlobals "max" = some none)
    (z_ord : PySem.W.nsIn K mainGlobals "ord" = some none)
    (z_range : PySem.W.nsIn K mainGlobals "range" = some none)
    (z_repr : PySem.W.nsIn K mainGlobals "repr" = some none)
    (z_str : PySem.W.nsIn K mainGlobals "str" = some none)
    (z_sum : PySem.W.nsIn K mainGlobals "sum" = some none)
    {t_DIGITS : Tok} (y_DIGITS : PySem.W.nsIn K mainGlobals "DIGITS" = some (some (.str "0123456789" t_DIGITS)))
    {t_PRIME : Tok} (y_PRIME : PySem.W.nsIn K mainGlobals "PRIME" = some (some (.int 997 t_PRIME)))
    {t_MOST_BODY : Tok} (y_MOST_BODY : PySem.W.nsIn K mainGlobals "MOST_BODY" = some (some (.int 700 t_MOST_BODY)))
    {t_CHECK_LENGTH : Tok} (y_CHECK_LENGTH : PySem.W.nsIn K mainGlobals "CHECK_LENGTH" = some (some (.int 7 t_CHECK_LENGTH))) :
    ∃ fd : FuncData, (∀ (s : Shared) (v : Value), BindsTo s fd ⟨[v], []⟩ [("_law_script", v)]) ∧ ∀ base : Heap, K.In base → base.Ns mainGlobals mg → FnG l.prog w K mg base CX0 5 fa fd ["_law_script"] (sp_law K) := by
  have e := hfa.symm.trans (PySem.W.mg_of X G a16)
  cases e
  have F0 := fun_mk (st := s_read_number) l0 c0 k0
  have F1 := fun_mk (st := s_is_plain) l1 c1 k1
  have F2 := fun_mk (st := s_check_digits) l2 c2 k2
  have F3 := fun_mk (st := s_record_line) l3 c3 k3
  have F4 := fun_mk (st := s_record_text) l4 c4 k4
  have F5 := fun_mk (st := s_read_record) l5 c5 k5
  have F6 := fun_mk (st := s_whole_records) l6 c6 k6
  have F7 := fun_mk (st := s_whole_length) l7 c7 k7
  have F8 := fun_mk (st := s__law_row) l8 c8 k8
  have F9 := fun_mk (st := s__law_numbers) l9 c9 k9
  have F10 := fun_mk (st := s__law_three) l10 c10 k10
  have F11 := fun_mk (st := s__law_digits) l11 c11 k11
  have F12 := fun_mk (st := s__law_line) l12 c12 k12
  have F13 := fun_mk (st := s__law_sign) l13 c13 k13
  have F14 := fun_mk (st := s__law_drawn) l14 c14 k14
  have F15 := fun_mk (st := s__law_lines) l15 c15 k15
  have F16 := fun_mk (st := s_law) l16 c16 k16
  have b0 := F0.binds (ps := ["part", "digits"]) fun _ _ _ _ _ _ us hl => match us, hl with | [_, _], _ => rfl
  have b1 := F1.binds (ps := ["text"]) fun _ _ _ _ _ _ us hl => match us, hl with | [_], _ => rfl
  have b2 := F2.binds (ps := ["text"]) fun _ _ _ _ _ _ us hl => match us, hl with | [_], _ => rfl
  have b3 := F3.binds (ps := ["number", "body"]) fun _ _ _ _ _ _ us hl => match us, hl with | [_, _], _ => rfl
  have b4 := F4.binds (ps := ["number", "body"]) fun _ _ _ _ _ _ us hl => match us, hl with | [_, _], _ => rfl
  have b5 := F5.binds (ps := ["line"]) fun _ _ _ _ _ _ us hl => match us, hl with | [_], _ => rfl
  have b6 := F6.binds (ps := ["text"]) fun _ _ _ _ _ _ us hl => match us, hl with | [_], _ => rfl
  have b7 := F7.binds (ps := ["text"]) fun _ _ _ _ _ _ us hl => match us, hl with | [_], _ => rfl
  have b8 := F8.binds (ps := ["_law_cell", "_law_many"]) fun _ _ _ _ _ _ us hl => match us, hl with | [_, _], _ => rfl
  have b9 := F9.binds (ps := ["_law_script", "_law_many"]) fun _ _ _ _ _ _ us hl => match us, hl with | [_, _], _ => rfl
  have b10 := F10.binds (ps := ["_law_number"]) fun _ _ _ _ _ _ us hl => match us, hl with | [_], _ => rfl
  have b11 := F11.binds (ps := ["_law_text_here"]) fun _ _ _ _ _ _ us hl => match us, hl with | [_], _ => rfl
  have b12 := F12.binds (ps := ["_law_number", "_law_body"]) fun _ _ _ _ _ _ us hl => match us, hl with | [_, _], _ => rfl
  have b13 := F13.binds (ps := ["_law_number"]) fun _ _ _ _ _ _ us hl => match us, hl with | [_], _ => rfl
  have b14 := F14.binds (ps := ["_law_numbers_here", "_law_at", "_law_number"]) fun _ _ _ _ _ _ us hl => match us, hl with | [_, _, _], _ => rfl
  have b15 := F15.binds (ps := ["_law_numbers_here"]) fun _ _ _ _ _ _ us hl => match us, hl with | [_], _ => rfl
  have b16 := F16.binds (ps := ["_law_script"]) fun _ _ _ _ _ _ us hl => match us, hl with | [_], _ => rfl
  have T : Txt l.prog K mg ⟨f0, f1, f2, f3, f4, f5, f6, f7, f8, f9, f10, f11, f12, f13, f14, f15, fa, _, _, _, _, _, _, _, _, _, _, _, _, _, _, _, _, _⟩ := ⟨F0, PySem.W.mg_of X G a0, b0, F1, PySem.W.mg_of X G a1, b1, F2, PySem.W.mg_of X G a2, b2, F3, PySem.W.mg_of X G a3, b3, F4, PySem.W.mg_of X G a4, b4, F5, PySem.W.mg_of X G a5, b5, F6, PySem.W.mg_of X G a6, b6, F7, PySem.W.mg_of X G a7, b7, F8, PySem.W.mg_of X G a8, b8, F9, PySem.W.mg_of X G a9, b9, F10, PySem.W.mg_of X G a10, b10, F11, PySem.W.mg_of X G a11, b11, F12, PySem.W.mg_of X G a12, b12, F13, PySem.W.mg_of X G a13, b13, F14, PySem.W.mg_of X G a14, b14, F15, PySem.W.mg_of X G a15, b15, F16, PySem.W.mg_of X G a16, b16, PySem.W.mg_none_of X G z_abs, PySem.W.mg_none_of X G z_all, PySem.W.mg_none_of X G z_bool, PySem.W.mg_none_of X G z_enumerate, PySem.W.mg_none_of X G z_int, PySem.W.mg_none_of X G z_isinstance, PySem.W.mg_none_of X G z_len, PySem.W.mg_none_of X G z_max, PySem.W.mg_none_of X G z_ord, PySem.W.mg_none_of X G z_range, PySem.W.mg_none_of X G z_repr, PySem.W.mg_none_of X G z_str, PySem.W.mg_none_of X G z_sum, ⟨_, PySem.W.mg_of X G y_DIGITS, ⟨_, rfl⟩⟩, ⟨_, PySem.W.mg_of X G y_PRIME, ⟨_, rfl⟩⟩, ⟨_, PySem.W.mg_of X G y_MOST_BODY, ⟨_, rfl⟩⟩, ⟨_, PySem.W.mg_of X G y_CHECK_LENGTH, ⟨_, rfl⟩⟩⟩
  exact ⟨_, fun s v => .of_eq rfl, fun base _ _ => ok_law T⟩
end Lw
open PySem PySem.W PyProof.Rows
set_option maxRecDepth 100000 in
set_option maxHeartbeats 0 in
theorem PySem.Challenge.cw_limitweave_k39_whole_records_holds : PySem.Challenge.rw_limitweave_k39_whole_records.Holds := by
  w_on; o_law; k_head; (case hw => w_witness2)
  k_fill
  refine Lw.walk_ofGK (l := PySem.Challenge.rw_limitweave_k39_whole_records) (n := 63) (k := 5) (x := "_law_script") (sp := fun w => Lw.sp_law _) rfl (by decide) rfl ⟨rfl, by decide, by decide⟩ (fun w h Y => PySem.W.kIn_of Y) ?F (fun _ _ a ns hl _ hS => ⟨a, ns, rfl, hS, hl, fun _ => rfl⟩)
  case F =>
    intro w mg fa h KX G hmg
    refine' Lw.all_mk KX G hmg ?a0 ?l0 ?c0 ?k0 ?a1 ?l1 ?c1 ?k1 ?a2 ?l2 ?c2 ?k2 ?a3 ?l3 ?c3 ?k3 ?a4 ?l4 ?c4 ?k4 ?a5 ?l5 ?c5 ?k5 ?a6 ?l6 ?c6 ?k6 ?a7 ?l7 ?c7 ?k7 ?a8 ?l8 ?c8 ?k8 ?a9 ?l9 ?c9 ?k9 ?a10 ?l10 ?c10 ?k10 ?a11 ?l11 ?c11 ?k11 ?a12 ?l12 ?c12 ?k12 ?a13 ?l13 ?c13 ?k13 ?a14 ?l14 ?c14 ?k14 ?a15 ?l15 ?c15 ?k15 ?a16 ?l16 ?c16 ?k16 ?z_abs ?z_all ?z_bool ?z_enumerate ?z_int ?z_isinstance ?z_len ?z_max ?z_ord ?z_range ?z_repr ?z_str ?z_sum ?y_DIGITS ?y_PRIME ?y_MOST_BODY ?y_CHECK_LENGTH
    (case a0 => k_is)
    (case l0 => k_is)
    (case c0 => k_is)
    (case k0 => k_is)
    (case a1 => k_is)
    (case l1 => k_is)
    (case c1 => k_is)
    (case k1 => k_is)
    (case a2 => k_is)
    (case l2 => k_is)
    (case c2 => k_is)
    (case k2 => k_is)
    (case a3 => k_is)
    (case l3 => k_is)
    (case c3 => k_is)
    (case k3 => k_is)
    (case a4 => k_is)
    (case l4 => k_is)
    (case c4 => k_is)
    (case k4 => k_is)
    (case a5 => k_is)
    (case l5 => k_is)
    (case c5 => k_is)
    (case k5 => k_is)
    (case a6 => k_is)
    (case l6 => k_is)
    (case c6 => k_is)
    (case k6 => k_is)
    (case a7 => k_is)
    (case l7 => k_is)
    (case c7 => k_is)
    (case k7 => k_is)
    (case a8 => k_is)
    (case l8 => k_is)
    (case c8 => k_is)
    (case k8 => k_is)
    (case a9 => k_is)
    (case l9 => k_is)
    (case c9 => k_is)
    (case k9 => k_is)
    (case a10 => k_is)
    (case l10 => k_is)
    (case c10 => k_is)
    (case k10 => k_is)
    (case a11 => k_is)
    (case l11 => k_is)
    (case c11 => k_is)
    (case k11 => k_is)
    (case a12 => k_is)
    (case l12 => k_is)
    (case c12 => k_is)
    (case k12 => k_is)
    (case a13 => k_is)
    (case l13 => k_is)
    (case c13 => k_is)
    (case k13 => k_is)
    (case a14 => k_is)
    (case l14 => k_is)
    (case c14 => k_is)
    (case k14 => k_is)
    (case a15 => k_is)
    (case l15 => k_is)
    (case c15 => k_is)
    (case k15 => k_is)
    (case a16 => k_is)
    (case l16 => k_is)
    (case c16 => k_is)
    (case k16 => k_is)
    (case z_abs => k_is)
    (case z_all => k_is)
    (case z_bool => k_is)
    (case z_enumerate => k_is)
    (case z_int => k_is)
    (case z_isinstance => k_is)
    (case z_len => k_is)
    (case z_max => k_is)
    (case z_ord => k_is)
    (case z_range => k_is)
    (case z_repr => k_is)
    (case z_str => k_is)
    (case z_sum => k_is)
    (case y_DIGITS => k_is)
    (case y_PRIME => k_is)
    (case y_MOST_BODY => k_is)
    (case y_CHECK_LENGTH => k_is)
