import PyProof.Rows.All
import Wide.All
import OpenK.AllK
import Wide.FinOn
import HandS.ForMost
import HandS.SortInts
import HandS.Style
import HandS.IsInst
import HandS.Flow
import HandS.Conv
import HandS.Codes
import PyProof.Draws
import PyProof.EnumMake
import HandS.Walk
import HandS.Strs
import HandS.More
import HandS.Text
import HandS.Small
import HandS.SortKw
import KE.SortKeyed
import HandS.DictComp
import HandS.Zip
import HandS.Finally
import HandS.SetFor
import HandS.Exc
import HandS.ExcOwn
import HandS.ExcInit
import HandS.ExcIs
import HandS.TryOnly
import HandS.TryMany
import HandS.WordsExc
import HandS.Defaults
import HandS.CallSlots
import HandS.DeepEq
import PyProof.ReprRoads
import HandS.Ends
import KE.KLam
import KE.KNestM
import HandS.Lambda
import HandS.Nested
import HandS.EndTab
import HandS.Deep
import HandS.TupAny
import HandS.FStr
import PySem.Challenge.RW_watchedways_k21_whole_sayings_hold
set_option Elab.async false
set_option linter.all false
set_option maxRecDepth 100000
set_option maxHeartbeats 4000000
/-! Readings by their heads: one lemma a combinator, so that a reading is walked by its own shape. -/
namespace Rd
open PySem PySem.Spec PyProof.Rows L2
variable {X : Cx} {D : Ends} {σ : L2.St} {H : Hp} {K : PySem.W.Frag}
/-- a new object is laid -/
def NewQ (o : HO) (Q : VK) (H : Hp) : Prop := ∀ p, H p = none → Q (.ref p) (upd H p o)
theorem new {o : HO} {Q : VK} (h : ∀ (p : Addr) (G : Hp), H p = none → G p = some o → Same H G → Q (.ref p) G) : NewQ o Q H :=
  fun p hp => h p _ hp upd_same fun b u e => by rw [upd_ne (ne_of_none e hp)]; exact e
theorem seq {t u : TS} (h : t { D with nx := u D } σ H) : tSeq t u D σ H := h
theorem cut {t u : TS} (Mid : L2.St → Hp → Prop) (h : t { D with nx := Mid } σ H) (h2 : ∀ σ' H', Mid σ' H' → u D σ' H') : C8.tCut t u D σ H := ⟨Mid, h, h2⟩
theorem nxt (h : D.nx σ H) : tNext D σ H := h
theorem asg {te : TE} {g : TG} (h : te σ H fun x H1 => g x σ H1 D.nx) : tAsg te g D σ H := h
theorem name {i : Nat} {v : V} {Q : L2.St → Hp → Prop} (h : Q (σ.set i (some v)) H) : gName i v σ H Q := h
theorem ret {te : TE} (h : te σ H D.rt) : tRet te D σ H := h
theorem retN (h : D.rt .non H) : tRetN D σ H := h
theorem drop {te : TE} (h : te σ H fun _ H1 => D.nx σ H1) : tDrop te D σ H := h
theorem ifS {c : TT} {t u : TS} (h : c σ H fun b H1 => if b = true then t D σ H1 else u D σ H1) : tIfS c t u D σ H := h
theorem brk (h : D.bk σ H) : tBreak D σ H := h
theorem cont (h : D.ct σ H) : tCont D σ H := h
theorem var {i : Nat} {v : V} {Q : VK} (e : σ[i]? = some (some v)) (h : Q v H) : tVar i σ H Q := ⟨v, e, h⟩
theorem con {v : V} {Q : VK} (h : Q v H) : tC v σ H Q := h
theorem op {r : R2} {ta tb : TE} {Q : VK} (h : ta σ H fun x H1 => tb σ H1 fun y H2 => r x y H2 Q) : tOp r ta tb σ H Q := h
theorem un {r : V → Hp → VK → Prop} {ta : TE} {Q : VK} (h : ta σ H fun x H1 => r x H1 Q) : tUn r ta σ H Q := h
theorem test {t : TE} {Q : Bool → Hp → Prop} (h : t σ H fun x H' => ∃ k, x = .bl k ∧ Q k H') : tTest t σ H Q := h
theorem tstB {t : TE} {Q : Bool → Hp → Prop} (h : t σ H fun x H' => ∃ k, x = .bl k ∧ Q k H') : tB t σ H Q := h
theorem bl {k : Bool} {Q : Bool → Hp → Prop} (h : Q k H) : ∃ k', V.bl k = .bl k' ∧ Q k' H := ⟨k, rfl, h⟩
theorem and {t u : TT} {Q : Bool → Hp → Prop} (h : t σ H fun c H1 => if c = true then u σ H1 Q else Q false H1) : tAnd t u σ H Q := h
theorem or {t u : TT} {Q : Bool → Hp → Prop} (h : t σ H fun c H1 => if c = true then Q true H1 else u σ H1 Q) : tOr t u σ H Q := h
theorem not {t : TT} {Q : Bool → Hp → Prop} (h : t σ H fun c H1 => Q (!c) H1) : tNot t σ H Q := h
theorem andV {ta tb : TE} {Q : VK} (h : ta σ H fun x H1 => ∃ c, x = .bl c ∧ if c = true then tb σ H1 Q else Q (.bl false) H1) : tAndV ta tb σ H Q := h
theorem orV {ta tb : TE} {Q : VK} (h : ta σ H fun x H1 => ∃ c, x = .bl c ∧ if c = true then Q (.bl true) H1 else tb σ H1 Q) : tOrV ta tb σ H Q := h
theorem notV {ta : TE} {Q : VK} (h : ta σ H fun x H1 => ∃ c, x = .bl c ∧ Q (.bl (!c)) H1) : tNotV ta σ H Q := h
theorem ifE {t : TT} {ta tb : TE} {Q : VK} (h : t σ H fun c H1 => if c = true then ta σ H1 Q else tb σ H1 Q) : tIf t ta tb σ H Q := h
theorem nil {Q : List V → Hp → Prop} (h : Q [] H) : tNil σ H Q := h
theorem cons {ta : TE} {tr : TA} {Q : List V → Hp → Prop} (h : ta σ H fun x H1 => tr σ H1 fun xs H2 => Q (x :: xs) H2) : tCons ta tr σ H Q := h
theorem tup {t : TA} {Q : VK} (h : t σ H fun xs H1 => xs.length ≤ sizeLine ∧ NewQ (.tup xs) Q H1) : tTup t σ H Q := h
theorem lst {t : TA} {Q : VK} (h : t σ H fun xs H1 => xs.length ≤ sizeLine ∧ NewQ (.lst xs) Q H1) : tLst t σ H Q := h
theorem cb {r : List V → Hp → VK → Prop} {t : TA} {Q : VK} (h : t σ H fun vs H1 => r vs H1 Q) : tCB r t σ H Q := h
theorem call {sp : Sp} {dvs : List V} {E : XK} {t : TA} {Q : VK} (h : t σ H fun vs H1 => sp (vs ++ dvs) H1 Q E) : tCall sp dvs E t σ H Q := h
theorem chain {r r' : R2} {ta tb tc : TE} {Q : VK} (h : ta σ H fun x H1 => tb σ H1 fun y H2 => r x y H2 fun z H3 => ∃ k, z = .bl k ∧ (if k = true then tc σ H3 fun w' H4 => r' y w' H4 Q else Q (.bl false) H3)) : tChain r r' ta tb tc σ H Q := h
theorem blE {k : Bool} {P : Bool → Prop} (h : P k) : ∃ k', V.bl k = .bl k' ∧ P k' := ⟨k, rfl, h⟩
theorem i0 {g : Int → Int → V} {i j : Int} {Q : VK} (h : Q (g i j) H) : rI0 g (.int i) (.int j) H Q := ⟨i, j, rfl, rfl, h⟩
theorem iC {C : Int → Int → Prop} {g : Int → Int → V} {i j : Int} {Q : VK} (c : C i j) (h : Q (g i j) H) : rI C g (.int i) (.int j) H Q := ⟨i, j, rfl, rfl, c, h⟩
theorem u1 {g : Int → V} {i : Int} {Q : VK} (h : Q (g i) H) : rU g (.int i) H Q := ⟨i, rfl, h⟩
theorem eqI {i j : Int} {Q : VK} (h : Q (.bl (decide (i = j))) H) : rEq (.int i) (.int j) H Q := ⟨rfl, by rw [show decide (V.int i = V.int j) = decide (i = j) by simp]; exact h⟩
theorem neI {i j : Int} {Q : VK} (h : Q (.bl (!decide (i = j))) H) : rNe (.int i) (.int j) H Q := ⟨rfl, by rw [show decide (V.int i = V.int j) = decide (i = j) by simp]; exact h⟩
theorem eqB {i j : Bool} {Q : VK} (h : Q (.bl (i == j)) H) : rEq (.bl i) (.bl j) H Q := ⟨rfl, by rw [dec_bl]; exact h⟩
theorem neB {i j : Bool} {Q : VK} (h : Q (.bl (i != j)) H) : rNe (.bl i) (.bl j) H Q := ⟨rfl, by rw [dec_bl]; exact h⟩
theorem eqS {i j : Str} {Q : VK} (h : Q (.bl (decide (i = j))) H) : rEq (.str i) (.str j) H Q := ⟨rfl, by rw [show decide (V.str i = V.str j) = decide (i = j) by simp]; exact h⟩
theorem neS {i j : Str} {Q : VK} (h : Q (.bl (!decide (i = j))) H) : rNe (.str i) (.str j) H Q := ⟨rfl, by rw [show decide (V.str i = V.str j) = decide (i = j) by simp]; exact h⟩
theorem iteb {c A B : Prop} [Decidable c] (h : if c then A else B) : if decide c = true then A else B := by
  by_cases q : c
  · rw [if_pos q] at h; rw [if_pos (decide_eq_true q)]; exact h
  · rw [if_neg q] at h; rw [if_neg (by simpa using q)]; exact h
theorem iten {c A B : Prop} [Decidable c] (h : if c then B else A) : if (!decide c) = true then A else B := by
  by_cases q : c
  · rw [if_pos q] at h; rw [if_neg (by simpa using q)]; exact h
  · rw [if_neg q] at h; rw [if_pos (by simpa using q)]; exact h
theorem itbn {b : Bool} {A B : Prop} (h : if b = true then B else A) : if (!b) = true then A else B := by
  cases b with
  | true => rw [if_neg (by decide)]; rw [if_pos rfl] at h; exact h
  | false => rw [if_pos (by rfl : (!false) = true)]; rw [if_neg (by decide)] at h; exact h
theorem a1 {a : Int} {P : Int → Prop} (h : P a) : ∃ i, [V.int a] = [V.int i] ∧ P i := ⟨a, rfl, h⟩
theorem a2 {a b : Int} {P : Int → Int → Prop} (h : P a b) : ∃ i j, [V.int a, V.int b] = [V.int i, V.int j] ∧ P i j := ⟨a, b, rfl, h⟩
theorem v2 {a b : V} {P : V → V → Prop} (h : P a b) : ∃ i j, [a, b] = [i, j] ∧ P i j := ⟨a, b, rfl, h⟩
theorem int1 {a : Int} {P : Int → Prop} {R : Prop} (h : P a) : (∃ i, [V.int a] = [V.int i] ∧ P i) ∨ R := .inl ⟨a, rfl, h⟩
theorem par {i j : Nat} {ta : TA} (h : ta σ H fun vs H1 => ∃ v w, vs = [v, w] ∧ D.nx ((σ.set i (some v)).set j (some w)) H1) : tPar i j ta D σ H := h
theorem sub {to ti : TE} {t : TSet} {v : V} {Q : L2.St → Hp → Prop} (h : to σ H fun o H1 => ti σ H1 fun i H2 => t o i v H2 fun H3 => Q σ H3) : gSub to ti t v σ H Q := h
theorem forS {wi : TI} {g : TG} {tb : TS} (h : wi σ H fun J H1 => ∃ W : Nat → Nat → L2.St → Hp → Prop, (∃ m, W 0 m σ H1) ∧ ∀ i m σ H, W i m σ H →
  (J.stop i H ∧ D.nx σ H) ∨ (J.go i H ∧ ∃ N : L2.St → Hp → Prop, (∀ σ' H', N σ' H' → ∃ m', m' < m ∧ W (i + 1) m' σ' H') ∧ ∀ x H', J.yld i H x H' → g x σ H' fun σ2 H2 => tb { D with nx := N, ct := N, bk := D.nx } σ2 H2)) : tFor wi g tb D σ H := h
theorem iter {tl : TE} {R : It → Hp → Prop} (h : tl σ H fun x H1 => ∃ a, x = .ref a ∧ (∃ xs, SqL K H1 a xs) ∧ R (Itl K a) H1) : iList K tl σ H R := h
theorem iterT {tl : TE} {R : It → Hp → Prop} (h : tl σ H fun x H1 => ∃ a, x = .ref a ∧ (∃ xs, SqT K H1 a xs) ∧ R (Itt K a) H1) : iTup K tl σ H R := h
theorem rng1 {ta : TA} {R : It → Hp → Prop} (h : ta σ H fun vs H1 => ∃ j : Int, vs = [.int j] ∧ -(2 ^ 62) ≤ j ∧ j < 2 ^ 62 ∧ R (Itr 0 j.toNat) H1) : iRng1 ta σ H R := h
theorem refE {a : Addr} {P : Addr → Prop} (h : P a) : ∃ b, V.ref a = .ref b ∧ P b := ⟨a, rfl, h⟩
theorem aug {i : Nat} {te : TE} {ti : TIp} {x : V} (e : σ[i]? = some (some x)) (h : te σ H fun y H1 => ti x y H1 fun z H2 => D.nx (σ.set i (some z)) H2) : tAug i te ti D σ H := ⟨x, e, h⟩
theorem ipi {f : Int → Int → Int} {i j : Int} {Q : VK} (h : Q (.int (f i j)) H) : ipI f (.int i) (.int j) H Q := ⟨i, j, rfl, rfl, h⟩
theorem whl {c : TT} {tb : TS} (W : Nat → L2.St → Hp → Prop) (h0 : ∃ m, W m σ H) (hs : ∀ m σ H, W m σ H → c σ H fun b H1 => if b = true then ∃ N : L2.St → Hp → Prop, (∀ σ' H', N σ' H' → ∃ m', m' < m ∧ W m' σ' H') ∧ tb { D with nx := N, ct := N, bk := D.nx } σ H1 else D.nx σ H1) : tWhile c tb D σ H := ⟨W, h0, hs⟩
theorem whN {m : Nat} {W : Nat → L2.St → Hp → Prop} {P : (L2.St → Hp → Prop) → Prop} (h : P (fun σ' H' => ∃ m', m' < m ∧ W m' σ' H')) : ∃ N, (∀ σ' H', N σ' H' → ∃ m', m' < m ∧ W m' σ' H') ∧ P N := ⟨_, fun _ _ h => h, h⟩
/-- an item of a list at a place -/
theorem ixL {p : Addr} {xs : List V} {i : Int} {v : V} {Q : VK} (hp : SqL K H p xs) (e : atI xs i = some v) (h : Q v H) : rIxL K (.ref p) (.int i) H Q := ⟨p, xs, i, v, rfl, rfl, hp, e, h⟩
theorem ixT {p : Addr} {xs : List V} {i : Int} {v : V} {Q : VK} (hp : SqT K H p xs) (e : atI xs i = some v) (h : Q v H) : rIxT K (.ref p) (.int i) H Q := ⟨p, xs, i, v, rfl, rfl, hp, e, h⟩
theorem setL {p : Addr} {xs : List V} {k : Int} {j : Nat} {v : V} {Q : Hp → Prop} (hp : H p = some (.lst xs)) (e : ixN xs.length k = some j) (h : Q (upd H p (.lst (xs.set j v)))) : rSetL (.ref p) (.int k) v H Q := ⟨p, xs, k, j, rfl, rfl, hp, e, h⟩
/-- a store into a list: behind it a heap G of which this is known -/
theorem setG {p : Addr} {xs ys : List V} {k : Int} {j : Nat} {v : V} {Q : Hp → Prop} (hp : H p = some (.lst xs)) (e : ixN xs.length k = some j) (hy : xs.set j v = ys) (h : ∀ G : Hp, G p = some (.lst ys) → (∀ b, b ≠ p → G b = H b) → Q G) : rSetL (.ref p) (.int k) v H Q :=
  ⟨p, xs, k, j, rfl, rfl, hp, e, hy ▸ h _ upd_same fun b hb => upd_ne hb⟩
/-! ### calls of built-ins and methods, by name -/
def nLen (K : PySem.W.Frag) : List V → Hp → VK → Prop := fun xs H Q => ∃ p ys, xs = [.ref p] ∧ (SqL K H p ys ∨ SqT K H p ys) ∧ Q (.int ys.length) H
theorem c_len : CallR X (.builtin "len") (nLen X.K) := call_len_seq
theorem len {p : Addr} {ys : List V} {Q : VK} (hp : SqL K H p ys ∨ SqT K H p ys) (h : Q (.int ys.length) H) : nLen K [.ref p] H Q := ⟨p, ys, rfl, hp, h⟩
def nLenS : List V → Hp → VK → Prop := fun xs H Q => ∃ z : Str, xs = [.str z] ∧ z.length ≤ sizeLine ∧ Q (.int z.length) H
theorem c_lenS : CallR X (.builtin "len") nLenS := call_len_str
theorem lenStr {z : Str} {Q : VK} (hz : z.length ≤ sizeLine) (h : Q (.int z.length) H) : nLenS [.str z] H Q := ⟨z, rfl, hz, h⟩
def nListOf (K : PySem.W.Frag) : List V → Hp → VK → Prop := fun xs H Q => ∃ p ys, xs = [.ref p] ∧ (SqL K H p ys ∨ SqT K H p ys) ∧ NewQ (.lst ys) Q H
theorem c_listOf : CallR X (.type "list") (nListOf X.K) := call_list_of
theorem listOf {p : Addr} {ys : List V} {Q : VK} (hp : SqL K H p ys ∨ SqT K H p ys) (h : NewQ (.lst ys) Q H) : nListOf K [.ref p] H Q := ⟨p, ys, rfl, hp, h⟩
def nTupOf (K : PySem.W.Frag) : List V → Hp → VK → Prop := fun xs H Q => ∃ p ys, xs = [.ref p] ∧ ((SqL K H p ys ∧ NewQ (.tup ys) Q H) ∨ (SqT K H p ys ∧ Q (.ref p) H))
theorem c_tupOf : CallR X (.type "tuple") (nTupOf X.K) := call_tuple_of
theorem tupOf {p : Addr} {ys : List V} {Q : VK} (hp : SqL K H p ys) (h : NewQ (.tup ys) Q H) : nTupOf K [.ref p] H Q := ⟨p, ys, rfl, .inl ⟨hp, h⟩⟩
def nInt : List V → Hp → VK → Prop := fun xs H Q => (∃ i, xs = [.int i] ∧ Q (.int i) H) ∨ ∃ k, xs = [.bl k] ∧ Q (.int (if k then 1 else 0)) H
theorem c_int : CallR X (.type "int") nInt := call_int1
theorem int {i : Int} {Q : VK} (h : Q (.int i) H) : nInt [.int i] H Q := .inl ⟨i, rfl, h⟩
theorem intB {k : Bool} {Q : VK} (h : Q (.int (if k then 1 else 0)) H) : nInt [.bl k] H Q := .inr ⟨k, rfl, h⟩
def nAbs : List V → Hp → VK → Prop := fun xs H Q => ∃ i, xs = [.int i] ∧ Q (.int (if i < 0 then -i else i)) H
theorem c_abs : CallR X (.builtin "abs") nAbs := call_abs
theorem abs {i : Int} {Q : VK} (h : Q (.int (i.natAbs : Int)) H) : nAbs [.int i] H Q := ⟨i, rfl, by rw [show (if i < 0 then -i else i) = (i.natAbs : Int) by split <;> omega]; exact h⟩
def nMax2 : List V → Hp → VK → Prop := fun xs H Q => ∃ i j, xs = [.int i, .int j] ∧ Q (.int (if j > i then j else i)) H
theorem c_max2 (hc : X.calm = true) : CallR X (.builtin "max") nMax2 := call_max2 hc
theorem max2 {i j : Int} {Q : VK} (h : Q (.int (max i j)) H) : nMax2 [.int i, .int j] H Q := ⟨i, j, rfl, by rw [show (if j > i then j else i) = max i j by rw [Int.max_def]; split <;> split <;> omega]; exact h⟩
def nMin2 : List V → Hp → VK → Prop := fun xs H Q => ∃ i j, xs = [.int i, .int j] ∧ Q (.int (if j < i then j else i)) H
theorem c_min2 (hc : X.calm = true) : CallR X (.builtin "min") nMin2 := call_min2 hc
theorem min2 {i j : Int} {Q : VK} (h : Q (.int (min i j)) H) : nMin2 [.int i, .int j] H Q := ⟨i, j, rfl, by rw [show (if j < i then j else i) = min i j by rw [Int.min_def]; split <;> split <;> omega]; exact h⟩
theorem bm {T : String} {r : V → List V → Hp → VK → Prop} {to : TE} {t : TA} {Q : VK} (h : to σ H fun x H1 => tyV K T x H1 ∧ t σ H1 fun xs H2 => r x xs H2 Q) : tBM K T r to t σ H Q := h
theorem bm0 {T : String} {r : V → List V → Hp → VK → Prop} {to : TE} {Q : VK} (h : to σ H fun x H1 => tyV K T x H1 ∧ r x [] H1 Q) : tBM0 K T r to σ H Q := h
theorem tyL {a : Addr} {xs : List V} {R : Prop} (h : SqL K H a xs) (r : R) : tyV K "list" (.ref a) H ∧ R := ⟨.inl ⟨rfl, _, h⟩, r⟩
theorem app {l : Addr} {xs : List V} {y : V} {Q : VK} (hp : H l = some (.lst xs)) (hz : xs.length < sizeLine) (h : ∀ G : Hp, G l = some (.lst (xs ++ [y])) → (∀ b, b ≠ l → G b = H b) → Q .non G) : rAppend (.ref l) [y] H Q :=
  ⟨l, xs, y, rfl, rfl, hp, hz, h _ upd_same fun b hb => upd_ne hb⟩
theorem popAt {l : Addr} {xs : List V} {i : Int} {y : V} {Q : VK} (hp : H l = some (.lst xs)) (h0 : 0 ≤ i) (h1 : i < xs.length) (hz : xs.length < 2 ^ 63) (hy : xs[i.toNat]? = some y) (h : ∀ G : Hp, G l = some (.lst (xs.eraseIdx i.toNat)) → (∀ b, b ≠ l → G b = H b) → Q y G) : rPopAt (.ref l) [.int i] H Q :=
  ⟨l, xs, i, i.toNat, y, rfl, rfl, hp, by omega, by omega, by unfold seqIndex?; rw [if_pos (by simp; omega)] <;> simp <;> omega, hy, h _ upd_same fun b hb => upd_ne hb⟩
theorem sl {r : V → Option Int → Option Int → Hp → VK → Prop} {te : TE} {tl th : TO} {Q : VK} (h : te σ H fun x H1 => tl σ H1 fun l H2 => th σ H2 fun u H3 => r x l u H3 Q) : tSl r te tl th σ H Q := h
theorem slL {a : Addr} {xs : List V} {lo hi : Option Int} {Q : VK} (hp : SqL K H a xs) (h : NewQ (.lst (cutV xs lo hi)) Q H) : rSlL K (.ref a) lo hi H Q := ⟨a, xs, rfl, hp, h⟩
theorem slS {z : Str} {lo hi : Option Int} {Q : VK} (hz : z.length ≤ sizeLine) (h : Q (.str (cutS z lo hi)) H) : rSlS (.str z) lo hi H Q := ⟨z, rfl, hz, h⟩
theorem cat {l b : Addr} {xs zs : List V} {Q : VK} (h1 : H l = some (.lst xs)) (h2 : H b = some (.lst zs)) (hz : xs.length + zs.length ≤ sizeLine) (h : NewQ (.lst (xs ++ zs)) Q H) : rCat (.ref l) (.ref b) H Q := ⟨l, b, xs, zs, rfl, rfl, h1, h2, hz, h⟩
theorem rep {l : Addr} {xs : List V} {k : Int} {Q : VK} (h1 : H l = some (.lst xs)) (h0 : -(2 ^ 63) ≤ k) (hk : k < 2 ^ 63) (hz : xs.length * k.toNat ≤ sizeLine) (h : NewQ (.lst (List.replicate k.toNat xs).flatten) Q H) : rRep (.ref l) (.int k) H Q := ⟨l, k, xs, rfl, rfl, h1, h0, hk, hz, h⟩
theorem revL {te : TE} {Q : VK} (h : te σ H fun x H1 => ∃ a xs, x = .ref a ∧ SqL K H1 a xs ∧ NewQ (.lst xs.reverse) Q H1) : tRevL K te σ H Q := h
theorem refX {a : Addr} {xs : List V} {P : List V → Prop} (h : SqL K H a xs) (q : P xs) : ∃ b ys, V.ref a = .ref b ∧ SqL K H b ys ∧ P ys := ⟨a, xs, rfl, h, q⟩
theorem sum {a : Addr} {ns : List Int} {Q : VK} (hp : SqL K H a (ns.map V.int)) (h : Q (.int ns.sum) H) : rSum K [.ref a] H Q := ⟨a, ns, rfl, hp, h⟩
theorem all {a : Addr} {bs : List Bool} {Q : VK} (hp : SqL K H a (bs.map V.bl)) (h : Q (.bl (bs.all id)) H) : rAll K [.ref a] H Q := ⟨a, bs, rfl, hp, h⟩
theorem any {a : Addr} {bs : List Bool} {Q : VK} (hp : SqL K H a (bs.map V.bl)) (h : Q (.bl (bs.any id)) H) : rAny K [.ref a] H Q := ⟨a, bs, rfl, hp, h⟩
theorem sortedI {a : Addr} {ns : List Int} {Q : VK} (hp : SqL K H a (ns.map V.int)) (h : ∀ (ms : List Int) (p : Addr) (G : Hp), ms.Perm ns → ms.Pairwise (· ≤ ·) → G p = some (.lst (ms.map V.int)) → Same H G → H p = none → Q (.ref p) G) : rSortedI K [.ref a] H Q :=
  ⟨a, ns, rfl, hp, fun ms p h1 h2 h3 => h ms p _ h1 h2 upd_same (fun b u e => by rw [upd_ne (ne_of_none e h3)]; exact e) h3⟩
theorem inS {neg : Bool} {x : V} {p : Addr} {xs : List V} {Q : VK} (hp : SqL K H p xs ∨ SqT K H p xs) (h1 : flatV x = true) (h2 : xs.all flatV = true) (h : Q (.bl (if neg then !inV x xs else inV x xs)) H) : rIn K neg x (.ref p) H Q := ⟨p, xs, rfl, hp, h1, h2, h⟩
theorem part {te : TE} {Q : Option Int → Hp → Prop} (h : te σ H fun x H1 => ∃ i, x = .int i ∧ Q (some i) H1) : tPart te σ H Q := h
theorem noPart {Q : Option Int → Hp → Prop} (h : Q none H) : tNoPart σ H Q := h
theorem poS {te : TE} {Q : Option Int → Hp → Prop} {i : Int} (h : te σ H fun x H1 => ∃ i, x = .int i ∧ Q (some i) H1) : te σ H fun x H1 => ∃ i, x = .int i ∧ Q (some i) H1 := h
theorem tupT {a : Addr} {xs : List V} {n : Nat} {t : TGs} {Q : L2.St → Hp → Prop} (hp : SqT K H a xs) (hn : xs.length = n) (h : t xs σ H Q) : gTup K n t (.ref a) σ H Q := ⟨a, xs, rfl, hp, hn, h⟩
theorem gcons {t : TG} {u : TGs} {v : V} {r : List V} {Q : L2.St → Hp → Prop} (h : t v σ H fun σ' H' => u r σ' H' Q) : gCons t u (v :: r) σ H Q := ⟨v, r, rfl, h⟩
theorem gnil {Q : L2.St → Hp → Prop} (h : Q σ H) : gNil [] σ H Q := ⟨rfl, h⟩
theorem last2 {ms : List Int} (h : 2 ≤ ms.length) : ∃ s b a, ms = s ++ [b, a] := by
  rcases List.eq_nil_or_concat ms with e | ⟨t, a, e⟩
  · subst e; simp at h
  · rcases List.eq_nil_or_concat t with e2 | ⟨s, b, e2⟩
    · subst e2; subst e; simp at h
    · exact ⟨s, b, a, by rw [e, e2]; simp⟩
theorem cut_last2 (s : List Int) (b a : Int) : cutV ((s ++ [b, a]).map V.int) (some (-2)) none = [b, a].map V.int := by
  have e : HT.sIx ((s ++ [b, a]).map V.int).length 0 (some (-2)) = (s.map V.int).length := by
    unfold HT.sIx
    simp
    omega
  have e2 : HT.sIx ((s ++ [b, a]).map V.int).length ((s ++ [b, a]).map V.int).length none = ((s ++ [b, a]).map V.int).length := rfl
  unfold cutV
  rw [e, e2, List.map_append, List.drop_left, List.length_append]
  exact List.take_of_length_le (by simp)
theorem rep_map (k : Nat) (b : Bool) : (List.replicate k [V.bl b]).flatten = (List.replicate k b).map V.bl := by
  induction k with
  | zero => rfl
  | succ k ih => rw [List.replicate_succ, List.flatten_cons, ih, List.replicate_succ]; rfl
theorem map_set {α β : Type} (f : α → β) (l : List α) (i : Nat) (x : α) : (l.map f).set i (f x) = (l.set i x).map f := by rw [List.map_set]
theorem enx {a b c : L2.St → Hp → Prop} {r : VK} (h : a σ H) : (Ends.mk a r b c).nx σ H := h
theorem ebk {a b c : L2.St → Hp → Prop} {r : VK} (h : b σ H) : (Ends.mk a r b c).bk σ H := h
theorem ect {a b c : L2.St → Hp → Prop} {r : VK} (h : c σ H) : (Ends.mk a r b c).ct σ H := h
theorem ert {a b c : L2.St → Hp → Prop} {r : VK} {v : V} (h : r v H) : (Ends.mk a r b c).rt v H := h
theorem intE {i : Int} {P : Int → Prop} (h : P i) : ∃ j, V.int i = .int j ∧ P j := ⟨i, rfl, h⟩
theorem atI_of {α : Type} {xs : List α} {i : Int} {v : α} (h0 : 0 ≤ i) (e : xs[i.toNat]? = some v) : atI xs i = some v := by
  have h := atI_nat e
  rw [show ((i.toNat : Nat) : Int) = i by omega] at h
  exact h
theorem ixN_of {n : Nat} {i : Int} (h0 : 0 ≤ i) (h1 : i < n) : ixN n i = some i.toNat := by
  unfold ixN
  rw [if_pos h0, if_pos h1]
theorem map_int {ns : List Int} {i : Nat} (h : i < ns.length) : (ns.map V.int)[i]? = some (.int ns[i]) := by simp [h]
theorem map_get {ns : List Int} {i : Nat} {x : V} (h : (ns.map V.int)[i]? = some x) : ∃ n, ns[i]? = some n ∧ x = .int n := by
  rw [List.getElem?_map] at h
  cases e : ns[i]? with
  | none => rw [e] at h; cases h
  | some z => rw [e] at h; exact ⟨z, rfl, (Option.some.inj h).symm⟩
theorem take_snoc {α : Type} {l : List α} {i : Nat} {x : α} (h : l[i]? = some x) : l.take (i + 1) = l.take i ++ [x] := by
  rw [List.take_succ, h]
  rfl
theorem upd_at {a : Addr} {o : HO} {b : Addr} (h : b = a) : upd H a o b = some o := by subst h; exact upd_same
/-- all but what stands at a is kept -/
def But (a : Addr) (H H' : Hp) : Prop := ∀ b o, b ≠ a → H b = some o → H' b = some o
theorem But.refl (a : Addr) (H : Hp) : But a H H := fun _ _ _ e => e
theorem But.trans {a : Addr} {H H1 H2 : Hp} (x : But a H H1) (y : But a H1 H2) : But a H H2 := fun b o n e => y b o n (x b o n e)
theorem But.same {a : Addr} {H H1 H2 : Hp} (x : But a H H1) (y : Same H1 H2) : But a H H2 := fun b o n e => y b o (x b o n e)
theorem But.of {a : Addr} {H H1 : Hp} (y : Same H H1) : But a H H1 := fun b o _ e => y b o e
theorem But.free {a : Addr} {H H1 : Hp} (x : But a H H1) {l : Addr} (n : l ≠ a) (h : H1 l = none) : H l = none := by
  cases q : H l with
  | none => rfl
  | some o =>
    have := x l o n q
    rw [h] at this
    cases this
theorem But.upd {a : Addr} {H H1 : Hp} {o : HO} (x : But a H H1) : But a H (upd H1 a o) := fun b u n e => by rw [upd_ne n]; exact x b u n e
theorem same_upd {H : Hp} {p : Addr} {o : HO} (h : H p = none) : Same H (upd H p o) := fun b u e => by rw [upd_ne (ne_of_none e h)]; exact e
end Rd

/-! Further rules: enumerate and sorted of a tuple; one of two ways to walk. -/
namespace Ru
open PySem PyProof.Rows
open PySem.AutoSeq1 (wpAny_loadPart')
section
variable {prog : Program} {w : World} {A : Around} {E : Value → Shared → Prop} {s : Shared}
theorem nextOf_tup {it t : Addr} {i : Nat} {items : Array Value} {x : Value} {Q : Value → Shared → Prop} (hit : s.heap.IsTupleIter it t i) (ht : s.heap.IsTuple t items) (hx : items[i]? = some x)
    (hQ : ∀ h', h'.IsTupleIter it t (i + 1) → Heap.SameBut it s.heap h' → Q x { s with heap := h' }) : wpAny (model prog w) A (Builtin.SmallTypes.nextOf (.ref it)) Q E s := by
  obtain ⟨oi, hoi, hci, hdi⟩ := id hit
  obtain ⟨ot, hot, _, nt, hdt⟩ := ht
  unfold Builtin.SmallTypes.nextOf
  refine wpAny_bind (wpAny_callSpecial?_slot (name := Str.ofString "__next__") hit.typeIs F.slot_tuple_iterator_next (wpAny_call_entry F.slot_tuple_iterator_next hit.typeIs F.entry_tuple_iterator_next ?_ (F.args_tuple_iterator_next_1 _)))
  show wpAny _ _ (field (.ref it) 0 >>= _) _ _ s
  refine wpAny_bind (wpAny_field hoi hdi (x := .ref t) rfl ?_)
  show wpAny _ _ (if (Value.ref t == Value.none) = true then _ else _) _ _ s
  rw [if_neg (show ¬ ((Value.ref t == Value.none) = true) from Bool.false_ne_true)]
  show wpAny _ _ (field (.ref it) 1 >>= _) _ _ s
  refine wpAny_bind (wpAny_field hoi hdi (x := .int i 0) rfl ?_)
  show wpAny _ _ (seqItems? (.ref t) >>= _) _ _ s
  refine wpAny_bind (wpAny_seqItems hot hdt ?_)
  simp only [Int.toNat_natCast, hx]
  refine wpAny_bind (wpAny_setField hoi hdi (by simp) (wpAny_pure ⟨x, rfl, wpAny_pure (hQ _ ?_ (Heap.SameBut.update ..))⟩))
  exact ⟨_, Heap.get?_update_self _ hoi (Obj.isFreed_of_fields (Obj.data_mapFields hdi _)), (Obj.cls_mapFields ..).trans hci, by rw [Obj.data_mapFields hdi]; simp [rawInt]⟩
theorem nextOf_tup_end {it t : Addr} {i : Nat} {items : Array Value} {Q : Value → Shared → Prop} (hh : A.handled = none) (hit : s.heap.IsTupleIter it t i) (ht : s.heap.IsTuple t items) (hx : items[i]? = none)
    (hE : ∀ h' e, Heap.ExtBut it s.heap h' → (∃ o, h'.get? e = some o ∧ o.cls = .type "StopIteration") → E (.ref e) { s with heap := h' }) : wpAny (model prog w) A (Builtin.SmallTypes.nextOf (.ref it)) Q E s := by
  obtain ⟨oi, hoi, hci, hdi⟩ := id hit
  obtain ⟨ot, hot, _, nt, hdt⟩ := ht
  unfold Builtin.SmallTypes.nextOf
  refine wpAny_bind (wpAny_callSpecial?_slot (name := Str.ofString "__next__") hit.typeIs F.slot_tuple_iterator_next (wpAny_call_entry F.slot_tuple_iterator_next hit.typeIs F.entry_tuple_iterator_next ?_ (F.args_tuple_iterator_next_1 _)))
  show wpAny _ _ (field (.ref it) 0 >>= _) _ _ s
  refine wpAny_bind (wpAny_field hoi hdi (x := .ref t) rfl ?_)
  show wpAny _ _ (if (Value.ref t == Value.none) = true then _ else _) _ _ s
  rw [if_neg (show ¬ ((Value.ref t == Value.none) = true) from Bool.false_ne_true)]
  show wpAny _ _ (field (.ref it) 1 >>= _) _ _ s
  refine wpAny_bind (wpAny_field hoi hdi (x := .int i 0) rfl ?_)
  show wpAny _ _ (seqItems? (.ref t) >>= _) _ _ s
  refine wpAny_bind (wpAny_seqItems hot hdt ?_)
  simp only [Int.toNat_natCast, hx]
  refine wpAny_bind (wpAny_rule (wpAny_bind (wpAny_setField hoi hdi (by simp) ?_)))
  show wpAny _ _ (newExc (.type "StopIteration") [] >>= _) _ _ _
  refine wpAny_bind ?_
  simp only [newExc, newTuple]
  refine wpAny_bind (wpAny_newObj_type ?_ (by size_fits))
  refine wpAny_bind (m := firstArgMember _ _) (wpAny_of_eq (a := Value.none) (by first | rfl | (simp only [firstArgMember]; rfl)) ?_)
  refine wpAny_newObj_type ?_ (by size_fits)
  simp only [raiseNew]
  refine wpAny_bind (wpAny_handled ?_)
  first | rw [show A.in1.handled = none from hh] | rw [hh]
  refine wpAny_bind (wpAny_pure (wpAny_throw ?_))
  exact hE _ _ (((Heap.SameBut.update ..).extBut.push _).push _) ⟨_, Heap.get?_push_size _ rfl, rfl⟩
end
theorem draws_tup {prog : Program} {w : World} {A : Around} (hh : A.handled = none) (it t : Addr) (hne : t ≠ it) (items : Array Value) :
    Draws prog w A it [it, t] items.size (fun i v => items[i]? = some v) (fun i h => h.IsTupleIter it t i ∧ h.IsTuple t items) where
  live := fun _ _ st => let ⟨o, ho, _⟩ := st.1; ⟨o, ho⟩
  frame := fun _ _ _ st hk => ⟨let ⟨o, ho, r⟩ := st.1; ⟨o, hk it (by simp) o ho, r⟩, let ⟨o, ho, r⟩ := st.2; ⟨o, hk t (by simp) o ho, r⟩⟩
  item := fun i s Q E hi st hQ => by
    refine nextOf_tup st.1 st.2 (x := items[i]) (by simp [hi]) fun h' k1 k2 => ?_
    exact hQ _ h' s.toks (by simp [hi]) ⟨k1, st.2.extBut k2.extBut hne⟩ k2
  done := fun s Q E st hE => nextOf_tup_end hh st.1 st.2 (by simp) hE
theorem meets_enum_tup (l : Addr) (items : Array Value) (n : Nat) (dct : Option Addr) (sl : Array (Option Value)) :
    Meets (Builtin.«enumerate.__new__» ⟨[.type "enumerate", .ref l], []⟩) (fun _ R s => s.heap.get? l = some { cls := .type "tuple", dict := dct, data := .seq items n, slots := sl } ∧
      R (.ok (.ret (.ref (s.heap.push { cls := .type "tuple_iterator", data := .fields #[.ref l, .int 0 0] }).objs.size)))
        { s with heap := (s.heap.push { cls := .type "tuple_iterator", data := .fields #[.ref l, .int 0 0] }).push { cls := .type "enumerate", data := .fields #[.none, .bool false, .ref s.heap.objs.size, rawInt 0, .none, .none] } }) :=
  .of_wp fun prog w A R s h => by
    obtain ⟨hp, g, d, tk, os⟩ := s
    obtain ⟨hl, h⟩ := h
    have hsub := sub_enumerate
    have hL : Heap.IsTuple (Shared.heap ⟨hp, g, d, tk, os⟩) l items := ⟨_, hl, rfl, n, rfl⟩
    wp_walk using wpAny_loadPart' hl
    refine wpAny_stack_any fun st => wpAny_pure ?_
    split
    · rename_i c _ _ _ _ _
      cases (c == Value.type "enumerate")
      · wp_walk using wpAny_loadPart' hl, wpAny_pyIter_tuple hL
        exact ⟨_, rfl, h⟩
      · wp_walk using wpAny_loadPart' hl, wpAny_pyIter_tuple hL
        exact ⟨_, rfl, h⟩
    · wp_walk using wpAny_loadPart' hl, wpAny_pyIter_tuple hL
      exact ⟨_, rfl, h⟩
section
variable {prog : Program} {w : World} {A : Around} {E : Value → Shared → Prop} {s : Shared}
theorem call_enum_tup {l : Addr} {items : Array Value} {Q : Value → Shared → Prop} (hL : s.heap.IsTuple l items)
    (h : ∀ h', IsEnum h' (s.heap.objs.size + 1) s.heap.objs.size 0 .none → h'.IsTupleIter s.heap.objs.size l 0 → h'.objs.size = s.heap.objs.size + 2 → (∀ b o, s.heap.get? b = some o → h'.get? b = some o) → Q (.ref (s.heap.objs.size + 1)) { s with heap := h' }) :
    wpAny (model prog w) A (call (.type "enumerate") [.ref l]) Q E s := by
  obtain ⟨⟨c, dct, dt, sl⟩, hl, hc, n, hd⟩ := hL
  replace hc : c = .type "tuple" := hc
  replace hd : dt = .seq items n := hd
  subst hc hd
  refine callType_new F.called_enumerate (by decide) (F.typeCall_enumerate_1 _) (F.newCall_enumerate_1 _) (fun obj => F.args_object_init_2 obj _) F.entry_enumerate_new (meets_enum_tup l items n dct sl) ⟨hl, ?_⟩
  have hz : (s.heap.push { cls := .type "tuple_iterator", data := .fields #[.ref l, .int 0 0] }).objs.size = s.heap.objs.size + 1 := Heap.size_push ..
  show _ ∧ _
  rw [hz]
  have he : IsEnum ((s.heap.push { cls := .type "tuple_iterator", data := .fields #[.ref l, .int 0 0] }).push { cls := .type "enumerate", data := .fields #[.none, .bool false, .ref s.heap.objs.size, rawInt 0, .none, .none] }) (s.heap.objs.size + 1) s.heap.objs.size 0 .none := by
    have q := Heap.get?_push_size (s.heap.push { cls := .type "tuple_iterator", data := .fields #[.ref l, .int 0 0] }) (o := { cls := .type "enumerate", data := .fields #[.none, .bool false, .ref s.heap.objs.size, rawInt 0, .none, .none] }) rfl
    rw [hz] at q
    exact q
  exact ⟨⟨_, he, rfl⟩, h _ he ⟨_, Heap.get?_push_of_some _ (Heap.get?_push_size _ rfl), rfl, rfl⟩ (by rw [Heap.size_push, hz]) fun b o x => Heap.get?_push_of_some _ (Heap.get?_push_of_some _ x)⟩
/-- a tuple is collected into a new list -/
theorem collect_tup {l : Addr} {vs : List Value} {Q : List Value → Shared → Prop} (hl : s.heap.IsTuple l vs.toArray) (hsz : vs.length ≤ sizeLine)
    (h : Q vs { s with heap := (s.heap.push (seqObj "list" #[] 0)).update s.heap.objs.size (Obj.mapSeq (· ++ vs.toArray)) }) : wpAny (model prog w) A (collect (.ref l)) Q E s := by
  obtain ⟨o, ho, hc, n, hd⟩ := id hl
  unfold collect
  refine wpAny_bind (wpAny_runValue (codeAny_builtin entry_proto_collect' ?_))
  show wpAny _ _ (do again (.builtin "list.__iadd__" ⟨[← newList [], .ref l], []⟩)) _ _ s
  refine wpAny_bind (wpAny_newList (wpAny_pure ⟨Code.quiet_builtin _ (by decide +kernel), codeAny_builtin entry_list_iadd' ?_⟩))
  show wpAny _ _ (Builtin.List.listExtendWith (.ref s.heap.objs.size) (.ref l) (.ref s.heap.objs.size)) _ _ { s with heap := s.heap.push (seqObj "list" #[] 0) }
  unfold Builtin.List.listExtendWith
  have ho' : (s.heap.push (seqObj "list" #[] 0)).get? l = some o := Heap.get?_push_of_some _ ho
  refine wpAny_bind (wpAny_typeOf (T := "tuple") ⟨o, ho', hc⟩ ?_)
  have ht : (Value.type "tuple" == Value.type "tuple") = true := by rfl
  rw [if_pos (by rw [ht]; simp)]
  refine wpAny_bind (listItems_at ho' hd ?_)
  refine wpAny_bind (listItems_at (xs := #[]) (n := 0) (Heap.get?_push_size _ rfl) rfl ?_)
  rw [if_neg (by simp)]
  refine wpAny_bind (listUpdate_at (xs := #[]) (n := 0) (Heap.get?_push_size _ rfl) rfl ?_ (Nat.zero_le _) (by show (#[] ++ vs.toArray).size ≤ sizeLine + 1; simp only [Array.size_append, List.size_toArray, List.length_nil]; omega))
  refine wpAny_pure ?_
  show wpAny (model prog w) A (do
      let o ← load s.heap.objs.size
      match o.data with
      | .seq xs _ => pure xs.toList
      | _ => unsupported "internal:collect") Q E { s with heap := (s.heap.push (seqObj "list" #[] 0)).update s.heap.objs.size (Obj.mapSeq (· ++ vs.toArray)) }
  refine wpAny_bind (wpAny_load (get?_update_seq (Heap.get?_push_size _ rfl) _) ?_)
  show wpAny _ _ (pure ((#[] : Array Value) ++ vs.toArray).toList) Q E _
  rw [show ((#[] : Array Value) ++ vs.toArray).toList = vs by simp]
  exact wpAny_pure h
end

section
variable {prog : Program} {w : World} {A : Around} {E : Value → Shared → Prop} {s : Shared}
open SrtO in
/-- sorted of a tuple: the new list stands at size + 1 -/
theorem sorted_tup {l : Addr} {vs : List Value} {ltv : Value → Value → Bool} {Q : Value → Shared → Prop} (O : Swo ltv) (hl : s.heap.IsTuple l vs.toArray) (hz : vs.length ≤ sizeLine)
    (hS : 2 ≤ vs.length → ∀ (g : Heap) (a : Addr), g.get? a = some (seqObj "list" vs.toArray 0) → (∀ b o, s.heap.get? b = some o → b ≠ a ∧ g.get? b = some o) → SortableO prog w A.in1.in1 { s with heap := g } a vs ltv)
    (h : ∀ out : List Value, Srtd ltv out → Stb ltv out vs → Q (.ref (s.heap.objs.size + 1)) { s with heap := sortedAll s.heap vs out.toArray }) : wpAny (model prog w) A (call (.builtin "sorted") [.ref l]) Q E s := by
  refine Calls.call_function_entry kind_sorted plain_sorted entry_sorted (args_sorted1 _) ?_
  unfold Builtin.«sorted»
  refine wpAny_bind (m := checkCount "sorted" 1 1 _) (wpAny_pure ?_)
  refine wpAny_bind (collect_tup hl hz ?_)
  refine wpAny_bind (wpAny_newList ?_ hz)
  have e1 : ((s.heap.push (seqObj "list" #[] 0)).update s.heap.objs.size (Obj.mapSeq (· ++ vs.toArray))).objs.size = s.heap.objs.size + 1 := by rw [Heap.size_update, size_push']
  have e2 : (((s.heap.push (seqObj "list" #[] 0)).update s.heap.objs.size (Obj.mapSeq (· ++ vs.toArray))).push (seqObj "list" vs.toArray 0)).get? (s.heap.objs.size + 1) = some (seqObj "list" vs.toArray 0) := by
    rw [← e1]
    exact Heap.get?_push_size _ rfl
  have e3 : ∀ b o, s.heap.get? b = some o → b ≠ s.heap.objs.size + 1 ∧ (((s.heap.push (seqObj "list" #[] 0)).update s.heap.objs.size (Obj.mapSeq (· ++ vs.toArray))).push (seqObj "list" vs.toArray 0)).get? b = some o := fun b o q => by
    have lt : b < s.heap.objs.size := Heap.lt_size q
    refine ⟨Nat.ne_of_lt (Nat.lt_succ_of_lt lt), Heap.get?_push_of_some _ ?_⟩
    rw [Heap.get?_update_ne _ _ _ _ (Nat.ne_of_lt lt)]
    exact Heap.get?_push_of_some _ q
  show wpAny _ _ _ _ _ { s with heap := ((s.heap.push (seqObj "list" #[] 0)).update s.heap.objs.size (Obj.mapSeq (· ++ vs.toArray))).push (seqObj "list" vs.toArray 0) }
  rw [e1]
  refine wpAny_bind (wpAny_holding (wpAny_call_entry slot_list_sort ⟨_, e2, rfl⟩ entry_list_sort (list_sort_ord O e2 hz (fun h2 => hS h2 _ _ e2 e3) fun out hs hb => ⟨_, rfl, ?_⟩) (args_list_sort _)))
  exact wpAny_pure ⟨_, rfl, h out hs hb⟩
end
end Ru
namespace Ru
open PySem PySem.Spec PyProof.Rows L2
/-- one of two ways to walk -/
theorem pi_or {X : Cx} {tg e : Expr} {t u : TI} (a : PI X tg e t) (b : PI X tg e u) : PI X tg e (fun σ H R => t σ H R ∨ u σ H R) := ⟨fun pins s σ H R I h => h.elim (a.run pins s σ H R I) (b.run pins s σ H R I)⟩
theorem callR_or {X : Cx} {f : Value} {r r' : List V → Hp → VK → Prop} (a : CallR X f r) (b : CallR X f r') : CallR X f (fun vs H Q => r vs H Q ∨ r' vs H Q) := fun pins s σ H vs us Q I rv h => h.elim (a pins s σ H vs us Q I rv) (b pins s σ H vs us Q I rv)
/-- sorted(t), t a tuple of ints -/
def rSortedTup (K : PySem.W.Frag) : List V → Hp → VK → Prop := fun vs H Q => ∃ (a : Addr) (ns : List Int), vs = [V.ref a] ∧ SqT K H a (ns.map V.int) ∧
  ∀ (ms : List Int) (p : Addr), ms.Perm ns → ms.Pairwise (· ≤ ·) → H p = none → Q (.ref p) (upd H p (.lst (ms.map V.int)))
theorem cr_sortedTup {X : Cx} : CallR X (.builtin "sorted") (rSortedTup X.K) := by
  intro pins s σ H vs us Q I r h
  obtain ⟨a, ns, rfl, hs, q⟩ := h
  obtain ⟨its, rv, hl, hz⟩ := I.tuple hs
  rw [Vals.ref1 r]
  have hi := rv.ints
  refine sorted_tup SrtO.swo_int (show s.heap.IsTuple a its.toArray from hl) (by rw [← rv.length]; exact hz) (fun h2 g b _ _ => SrtO.ints_sortable hi h2) fun out h1 h2 => ?_
  obtain ⟨k1, k2, k3⟩ := SrtO.ints_out hi h1 h2
  obtain ⟨ep, he⟩ := PyProof.Rows.sortedAll_at s.heap its out.toArray
  have ln : ((out.map SrtO.iv).map V.int).length ≤ sizeLine := by
    rw [List.length_map, k2.length_eq]
    rw [List.length_map] at hz
    exact hz
  exact ⟨.ref _, upd H (s.heap.objs.size + 1) (.lst ((out.map SrtO.iv).map V.int)), I.laid (t' := s.toks) (fun _ _ => PyProof.Rows.sortedAll_old) (Nat.le_succ _) ⟨ln, out, ep, vals_of_ints k1, he⟩, rfl, q _ _ k2 k3 (I.hok.fresh (Nat.le_succ _))⟩
/-- enumerate of a tuple: each item in a new pair -/
def IteT (K : PySem.W.Frag) (a : Addr) : It :=
  ⟨fun i H => ∃ (xs : List V) (x : V), SqT K H a xs ∧ xs[i]? = some x, fun i H v H' => ∃ T x, v = .ref T ∧ H T = none ∧ H' = upd H T (.tup [.int (i : Nat), x]) ∧ ∀ xs, SqT K H a xs → xs[i]? = some x, fun i H => ∃ xs : List V, SqT K H a xs ∧ xs.length = i⟩
theorem turn_enumT {P : Program} {w : World} {K : PySem.W.Frag} {elts : List Expr} {kk : Nat} {tpos : Pos} (a e it : Addr) :
    Turn P w K (.Tuple elts kk tpos) (IteT K a) [e, it] e (fun i h => (∃ old, IsEnum h e it ((i : Nat) : Int) old) ∧ h.IsTupleIter it a i ∧ e ≠ it) where
  mem := by simp
  obj := fun i h st b hb => by
    obtain ⟨⟨old, he⟩, ⟨o, ho, hc, hd⟩, _⟩ := st
    have z : b = e ∨ b = it := by simpa using hb
    rcases z with z | z
    · rw [z]; exact ⟨_, he, fun v q => nomatch q⟩
    · rw [z]; exact ⟨o, ho, fun v q => by rw [hd] at q; cases q⟩
  keep := fun i h h' st k => let ⟨⟨old, he⟩, ⟨o, ho, r⟩, hne⟩ := st; ⟨⟨old, k e (by simp) _ he⟩, ⟨o, k it (by simp) o ho, r⟩, hne⟩
  item := by
    intro X hP hw hK hc i pins s σ H E I hf st hg
    subst hP hw hK
    obtain ⟨⟨old, he⟩, hit, hne⟩ := st
    obtain ⟨xs, x, hq, hx⟩ := hg
    obtain ⟨its, rv, p, hz⟩ := I.tuple hq
    obtain ⟨u, hu, ru⟩ := rv.get hx
    have hel : e < s.heap.objs.size := Heap.lt_size he
    have hil : it < s.heap.objs.size := by obtain ⟨_, q, _⟩ := hit; exact Heap.lt_size q
    have hat : a ≠ it := fun z => by
      obtain ⟨o, q1, q2, _⟩ := hit
      obtain ⟨o', q3, q4, _⟩ := (show s.heap.IsTuple a its.toArray from p)
      rw [← z, q3] at q1
      cases q1
      rw [q4] at q2
      exact absurd (Value.type.inj q2) (by decide)
    have hea : e ≠ a := fun z => by
      obtain ⟨o', q3, q4, _⟩ := (show s.heap.IsTuple a its.toArray from p)
      rw [← z, he] at q3
      cases q3
      exact absurd (Value.type.inj q4) (by decide)
    have hlt : i < its.toArray.size := by
      have := (List.getElem?_eq_some_iff.mp hu).1
      simpa using this
    refine wpAny_pyNext_enum_itemD (draws_tup (prog := X.prog) (w := X.w) (A := X.A.in1) (I.ok.hd hc) it a hat its.toArray) he ⟨hit, p⟩ hlt hne (by simp [hne, hea]) fun y h' tk hy ho st' hT hsz hk => ?_
    have hy' : y = u := by
      have z : its.toArray[i]? = some u := by simpa using hu
      rw [z] at hy
      exact (Option.some.inj hy).symm
    subst hy'
    refine ⟨_, rfl, wpAny_letOwnedTupleGo_enum (s := { s with heap := h', toks := tk + 1 }) ho fun h'' he' sb => ?_⟩
    have hT2 : h''.get? s.heap.objs.size = some { cls := .type "tuple", data := .seq #[.int i tk, y] } := (sb.2 _ (Nat.ne_of_gt hel)).trans hT
    have new : ObjOk X.prog X.w (upd H s.heap.objs.size (.tup [.int (i : Nat), x])) h'' s.heap.objs.size (.tup [.int (i : Nat), x]) :=
      ⟨by show 2 ≤ sizeLine; decide, [.int i tk, y], .cons ⟨_, rfl⟩ (.cons ru .nil), ⟨_, hT2, rfl, _, rfl⟩⟩
    have I1 : Inv X pins σ (upd H s.heap.objs.size (.tup [.int (i : Nat), x])) { s with heap := h'', toks := tk + 1 } :=
      I.turnedNew (ch := [e, it]) (fun b ob hb q => (sb.2 b (fun z => hb (by simp [z]))).trans (hk b ob (fun z => hb (by simp [z])) (fun z => hb (by simp [z])) q)) hf (Nat.le_refl _) new
    refine ⟨.ref s.heap.objs.size, _, I1, rfl, ⟨_, x, rfl, I.hok.fresh (Nat.le_refl _), rfl, fun ys hy => by rw [I.tuple_inj hy hq]; exact hx⟩, ⟨⟨y, ?_⟩, ?_, hne⟩, fun b hb => ?_⟩
    · have e1 : ((i + 1 : Nat) : Int) = (i : Int) + 1 := by omega
      rw [e1]; exact he'
    · obtain ⟨o, q, r⟩ := st'.1
      exact ⟨o, (sb.2 it (Ne.symm hne)).trans q, r⟩
    · have hb' : b < s.heap.objs.size := by
        have z : b = e ∨ b = it := by simpa using hb
        rcases z with z | z
        · rw [z]; exact hel
        · rw [z]; exact hil
      rw [upd_ne (Nat.ne_of_lt hb')]
      exact (hf b hb).1
  done := by
    intro X hP hw hK hc i pins s σ H E I hf st hg
    subst hP hw hK
    obtain ⟨⟨old, he⟩, hit, hne⟩ := st
    obtain ⟨xs, hq, hx⟩ := hg
    obtain ⟨its, rv, p, hz⟩ := I.tuple hq
    obtain ⟨f0, f1, f2, f3, f4, f5⟩ := hf it (by simp)
    have hl := rv.length
    have hat : a ≠ it := fun z => by
      obtain ⟨o, q1, q2, _⟩ := hit
      obtain ⟨o', q3, q4, _⟩ := (show s.heap.IsTuple a its.toArray from p)
      rw [← z, q3] at q1
      cases q1
      rw [q4] at q2
      exact absurd (Value.type.inj q2) (by decide)
    have hn : i = its.toArray.size := by simp; omega
    refine wpAny_pyNext_enum_endD (draws_tup (prog := X.prog) (w := X.w) (A := X.A.in1) (I.ok.hd hc) it a hat its.toArray) he (by rw [hn] at hit; exact ⟨hit, p⟩) fun h' eb => ⟨rfl, ?_⟩
    obtain ⟨g0, g1, g2, g3, g4, g5⟩ := hf e (by simp)
    obtain ⟨f0, f1, f2, f3, f4, f5⟩ := hf it (by simp)
    exact I.turned (t' := s.toks) (fun b o hb q => eb b o hb q) f0 f1 f3 f4 f5
  self := fun A i s Q E st h => let ⟨⟨_, he⟩, _⟩ := st; wpAny_pyIter_enum he h
def iEnumT (K : PySem.W.Frag) (ta : TA) : TI := fun σ H R => ta σ H fun vs H1 => ∃ a xs, vs = [.ref a] ∧ SqT K H1 a xs ∧ R (IteT K a) H1
theorem pi_enumT {X : Cx} {e : Expr} {ta : TA} {p pos tpos : Pos} {elts : List Expr} {kk : Nat} (hg : Gl X "enumerate") (hm : X.mg "enumerate" = none) (ha : PA X [e] ta) (hs : starEach [e] X.env = [(false, eval e X.env)] := by rfl) :
    PI X (.Tuple elts kk tpos) (.Call (.Name "enumerate" p) [e] [] pos) (iEnumT X.K ta) := by
  refine ⟨fun pins s σ H R I h => ?_⟩
  refine Call_ (ld_blt I hg hm boot_enumerate (PyProof.Rows.callWith_type1 (thn (ha.run pos pins s σ H _ I h) fun us s1 ⟨vs, H1, I1, r1, q1⟩ => ?_) hs rfl))
  obtain ⟨a, xs, ex, hq, q⟩ := q1
  subst ex
  cases r1 with
  | cons r rr =>
    cases rr
    cases r
    obtain ⟨its, rv, p', hz⟩ := I1.tuple hq
    refine call_enum_tup (show s1.heap.IsTuple a its.toArray from p') fun h' he hit hsz hk => wpAny_pyIter_enum he ?_
    have I2 : Inv X pins σ H1 { s1 with heap := h' } := I1.kept (t' := s1.toks) hk
    refine ⟨s1.heap.objs.size + 1, [s1.heap.objs.size + 1, s1.heap.objs.size], _, _, H1, rfl, I2, turn_enumT a (s1.heap.objs.size + 1) s1.heap.objs.size, ⟨⟨.none, he⟩, hit, Nat.succ_ne_self _⟩, fun b hb => ?_, q⟩
    have z : b = s1.heap.objs.size + 1 ∨ b = s1.heap.objs.size := by simpa using hb
    have hle : s1.heap.objs.size ≤ b := by
      rcases z with z | z
      · rw [z]; exact Nat.le_add_right _ _
      · rw [z]; exact Nat.le_refl _
    exact I1.fpOk hle (I1.hok.fresh hle)
/-- a loop over enumerate of a list that stands still -/
theorem for_enum {K : PySem.W.Frag} {a : Addr} {xs : List V} {g : TG} {tb : TS} {D : Ends} {σ : L2.St} {H : Hp} (Pv : Nat → L2.St → Hp → Prop) (h0 : Pv 0 σ H) (hl : ∀ i σ H, i ≤ xs.length → Pv i σ H → SqL K H a xs)
    (hs : ∀ i x σ H (T : Addr), xs[i]? = some x → Pv i σ H → H T = none → g (.ref T) σ (upd H T (.tup [.int (i : Nat), x])) fun σ2 H2 => tb { D with nx := Pv (i + 1), ct := Pv (i + 1), bk := D.nx } σ2 H2) (hd : ∀ σ H, Pv xs.length σ H → D.nx σ H) :
    ∃ W : Nat → Nat → L2.St → Hp → Prop, (∃ m, W 0 m σ H) ∧ ∀ i m σ H, W i m σ H →
      ((Ite K a).stop i H ∧ D.nx σ H) ∨ ((Ite K a).go i H ∧ ∃ N : L2.St → Hp → Prop, (∀ σ' H', N σ' H' → ∃ m', m' < m ∧ W (i + 1) m' σ' H') ∧ ∀ x H', (Ite K a).yld i H x H' → g x σ H' fun σ2 H2 => tb { D with nx := N, ct := N, bk := D.nx } σ2 H2) := by
  refine ⟨fun i m σ H => m = xs.length - i ∧ i ≤ xs.length ∧ Pv i σ H, ⟨xs.length, by simp, Nat.zero_le _, h0⟩, ?_⟩
  rintro i m σ H ⟨rfl, hi, p⟩
  have q := hl i σ H hi p
  by_cases lt : i < xs.length
  · refine .inr ⟨⟨xs, xs[i], q, by simp [lt]⟩, Pv (i + 1), fun σ' H' p' => ⟨xs.length - (i + 1), by omega, rfl, lt, p'⟩, fun x H' y => ?_⟩
    obtain ⟨T, z, rfl, hT, rfl, y⟩ := y
    exact hs i z σ H T (y xs q) p hT
  · have e : i = xs.length := by omega
    subst e
    exact .inl ⟨⟨xs, q, Nat.le_refl _⟩, hd σ H p⟩
theorem for_enumT {K : PySem.W.Frag} {a : Addr} {xs : List V} {g : TG} {tb : TS} {D : Ends} {σ : L2.St} {H : Hp} (Pv : Nat → L2.St → Hp → Prop) (h0 : Pv 0 σ H) (hl : ∀ i σ H, i ≤ xs.length → Pv i σ H → SqT K H a xs)
    (hs : ∀ i x σ H (T : Addr), xs[i]? = some x → Pv i σ H → H T = none → g (.ref T) σ (upd H T (.tup [.int (i : Nat), x])) fun σ2 H2 => tb { D with nx := Pv (i + 1), ct := Pv (i + 1), bk := D.nx } σ2 H2) (hd : ∀ σ H, Pv xs.length σ H → D.nx σ H) :
    ∃ W : Nat → Nat → L2.St → Hp → Prop, (∃ m, W 0 m σ H) ∧ ∀ i m σ H, W i m σ H →
      ((IteT K a).stop i H ∧ D.nx σ H) ∨ ((IteT K a).go i H ∧ ∃ N : L2.St → Hp → Prop, (∀ σ' H', N σ' H' → ∃ m', m' < m ∧ W (i + 1) m' σ' H') ∧ ∀ x H', (IteT K a).yld i H x H' → g x σ H' fun σ2 H2 => tb { D with nx := N, ct := N, bk := D.nx } σ2 H2) := by
  refine ⟨fun i m σ H => m = xs.length - i ∧ i ≤ xs.length ∧ Pv i σ H, ⟨xs.length, by simp, Nat.zero_le _, h0⟩, ?_⟩
  rintro i m σ H ⟨rfl, hi, p⟩
  have q := hl i σ H hi p
  by_cases lt : i < xs.length
  · refine .inr ⟨⟨xs, xs[i], q, by simp [lt]⟩, Pv (i + 1), fun σ' H' p' => ⟨xs.length - (i + 1), by omega, rfl, lt, p'⟩, fun x H' y => ?_⟩
    obtain ⟨T, z, rfl, hT, rfl, y⟩ := y
    exact hs i z σ H T (y xs q) p hT
  · have e : i = xs.length := by omega
    subst e
    exact .inl ⟨⟨xs, q, rfl⟩, hd σ H p⟩
/-! ### a row: a list or a tuple -/
def SqR (K : PySem.W.Frag) (H : Hp) (a : Addr) (xs : List V) : Prop := SqL K H a xs ∨ SqT K H a xs
theorem same_tup {K : PySem.W.Frag} {H H' : Hp} {a : Addr} {xs : List V} (e : Same H H') (h : SqT K H a xs) : SqT K H' a xs := by
  rcases h with (h | ⟨o, h⟩) | h
  · exact .inl (.inl (e _ _ h))
  · exact .inl (.inr ⟨o, e _ _ h⟩)
  · exact .inr h
theorem SqR.same {K : PySem.W.Frag} {H H' : Hp} {a : Addr} {xs : List V} (e : Same H H') (h : SqR K H a xs) : SqR K H' a xs := h.imp e.seq (same_tup e)
/-- a loop over a row that stands still -/
theorem for_row {K : PySem.W.Frag} {a : Addr} {xs : List V} {g : TG} {tb : TS} {D : Ends} {σ : L2.St} {H : Hp} {ta : TE} (ea : ∀ Q, Q (.ref a) H → ta σ H Q) (Pv : Nat → L2.St → Hp → Prop) {Hb : Hp} (hr : SqR K Hb a xs) (h0 : Pv 0 σ H) (hl : ∀ i σ H', i ≤ xs.length → Pv i σ H' → Same Hb H')
    (hs : ∀ i x σ H, xs[i]? = some x → Pv i σ H → g x σ H fun σ2 H2 => tb { D with nx := Pv (i + 1), ct := Pv (i + 1), bk := D.nx } σ2 H2) (hd : ∀ σ H, Pv xs.length σ H → D.nx σ H) :
    tFor (fun σ H R => iList K ta σ H R ∨ iTup K ta σ H R) g tb D σ H := by
  rcases hr with hr | hr
  · exact .inl (ea _ ⟨a, rfl, ⟨_, (hl 0 σ H (Nat.zero_le _) h0).seq hr⟩, for_list (K := K) (a := a) (xs := xs) Pv h0 (fun i σ H' hi p => (hl i σ H' hi p).seq hr) hs hd⟩)
  · exact .inr (ea _ ⟨a, rfl, ⟨_, same_tup (hl 0 σ H (Nat.zero_le _) h0) hr⟩, for_tup (K := K) (a := a) (xs := xs) Pv h0 (fun i σ H' hi p => same_tup (hl i σ H' hi p) hr) hs hd⟩)
/-- .. over enumerate of a row -/
theorem for_enumR {K : PySem.W.Frag} {a : Addr} {xs : List V} {g : TG} {tb : TS} {D : Ends} {σ : L2.St} {H : Hp} {ta : TA} (ea : ∀ Q, Q [.ref a] H → ta σ H Q) (Pv : Nat → L2.St → Hp → Prop) {Hb : Hp} (hr : SqR K Hb a xs) (h0 : Pv 0 σ H) (hl : ∀ i σ H', i ≤ xs.length → Pv i σ H' → Same Hb H')
    (hs : ∀ i x σ H (T : Addr), xs[i]? = some x → Pv i σ H → H T = none → g (.ref T) σ (upd H T (.tup [.int (i : Nat), x])) fun σ2 H2 => tb { D with nx := Pv (i + 1), ct := Pv (i + 1), bk := D.nx } σ2 H2) (hd : ∀ σ H, Pv xs.length σ H → D.nx σ H) :
    tFor (fun σ H R => iEnum K ta σ H R ∨ iEnumT K ta σ H R) g tb D σ H := by
  rcases hr with hr | hr
  · exact .inl (ea _ ⟨a, _, rfl, (hl 0 σ H (Nat.zero_le _) h0).seq hr, for_enum (K := K) (a := a) (xs := xs) Pv h0 (fun i σ H' hi p => (hl i σ H' hi p).seq hr) hs hd⟩)
  · exact .inr (ea _ ⟨a, _, rfl, same_tup (hl 0 σ H (Nat.zero_le _) h0) hr, for_enumT (K := K) (a := a) (xs := xs) Pv h0 (fun i σ H' hi p => same_tup (hl i σ H' hi p) hr) hs hd⟩)
theorem ty_L {K : PySem.W.Frag} {H : Hp} {a : Addr} {xs : List V} (h : SqL K H a xs) : TyX K H (.ref a) (.type "list") := by
  rcases h with (h | ⟨o, h⟩) | ⟨o, its, n, h1, h2, _⟩
  · exact .base (.lst h)
  · exact .base (.frz h)
  · exact .kList h1 h2
theorem ty_T {K : PySem.W.Frag} {H : Hp} {a : Addr} {xs : List V} (h : SqT K H a xs) : TyX K H (.ref a) (.type "tuple") := by
  rcases h with (h | ⟨o, h⟩) | ⟨o, its, n, h1, h2, _⟩
  · exact .base (.tup h)
  · exact .fTuple h
  · exact .kTuple h1 h2
/-- isinstance(row, (list, tuple)) -/
theorem isRow {K : PySem.W.Frag} {H : Hp} {a tp : Addr} {xs : List V} {Q : VK} (h : SqR K H a xs) (ht : H tp = some (.tup [.ty "list", .ty "tuple"])) (q : Q (.bl true) H) : rIsiT K [.ref a, .ref tp] H Q := by
  have pc : Paired ClsV [.ty "list", .ty "tuple"] [.type "list", .type "tuple"] := .cons (.ty _) (.cons (.ty _) .nil)
  rcases h with h | h
  · exact ⟨_, tp, _, _, _, true, rfl, ht, pc, ty_L h, kitAny_cons (kit_ty (r := true) (by decide +kernel)) (fun z => nomatch z) (fun _ => rfl), q⟩
  · exact ⟨_, tp, _, _, _, true, rfl, ht, pc, ty_T h, kitAny_cons (kit_ty (r := false) (by decide +kernel)) (fun _ => kitAny_cons (kit_ty (r := true) (by decide +kernel)) (fun z => nomatch z) (fun _ => rfl)) (fun z => nomatch z), q⟩
theorem sortedR {K : PySem.W.Frag} {H : Hp} {a : Addr} {ns : List Int} {Q : VK} (hp : SqR K H a (ns.map V.int)) (h : ∀ (ms : List Int) (p : Addr) (G : Hp), ms.Perm ns → ms.Pairwise (· ≤ ·) → G p = some (.lst (ms.map V.int)) → Same H G → H p = none → Q (.ref p) G) : rSortedI K [.ref a] H Q ∨ rSortedTup K [.ref a] H Q :=
  hp.imp (fun q => Rd.sortedI q h) fun q => ⟨a, ns, rfl, q, fun ms p h1 h2 h3 => h ms p _ h1 h2 upd_same (fun b u e => by rw [upd_ne (ne_of_none e h3)]; exact e) h3⟩
end Ru

/-! Readings of texts, comprehensions and own objects by their heads; letters. -/
namespace Rd
open PySem PySem.Spec PyProof.Rows L2
variable {X : Cx} {D : Ends} {σ : L2.St} {H : Hp} {K : PySem.W.Frag}
/-! ### texts -/
def nAddS : R2 := fun x y H Q => ∃ i j, x = .str i ∧ y = .str j ∧ i.length + j.length ≤ sizeLine ∧ Q (.str (i ++ j)) H
theorem o_addS : OpR X (binaryOp .Add) nAddS := op_add_str
theorem addS {i j : Str} {Q : VK} (hz : i.length + j.length ≤ sizeLine) (h : Q (.str (i ++ j)) H) : nAddS (.str i) (.str j) H Q := ⟨i, j, rfl, rfl, hz, h⟩
def nInC : R2 := fun x y H Q => ∃ (c : Nat) (z : Str), x = .str ⟨#[c]⟩ ∧ y = .str z ∧ Q (.bl (decide (c ∈ z.cps.toList))) H
theorem o_inC : OpR X (compareOp .In) nInC := op_in_sign
theorem inC {c : Nat} {z : Str} {Q : VK} (h : Q (.bl (decide (c ∈ z.cps.toList))) H) : nInC (.str ⟨#[c]⟩) (.str z) H Q := ⟨c, z, rfl, rfl, h⟩
theorem inCT {c : Nat} {z : Str} {Q : VK} (e : c ∈ z.cps.toList) (h : Q (.bl true) H) : nInC (.str ⟨#[c]⟩) (.str z) H Q := inC (by rw [decide_eq_true e]; exact h)
theorem nodup_take {α : Type} {l : List α} {i : Nat} {x : α} (nd : l.Nodup) (h : l[i]? = some x) : x ∉ l.take i := by
  intro m
  obtain ⟨j, hj, e⟩ := List.getElem_of_mem m
  rw [List.length_take] at hj
  have e2 : l[j]? = some x := by rw [← e, List.getElem_take]; exact List.getElem?_eq_getElem (by omega)
  have := (List.getElem?_inj (by omega) nd).mp (e2.trans h.symm)
  omega
theorem ixS {z : Str} {i : Int} {c : Nat} {Q : VK} (hz : z.length ≤ sizeLine) (e : atI z.cps.toList i = some c) (h : Q (.str ⟨#[c]⟩) H) : rIxS (.str z) (.int i) H Q := ⟨z, i, c, rfl, rfl, hz, e, h⟩
theorem inStrs {neg : Bool} {z : Str} {p : Addr} {ws : List Str} {Q : VK} (hp : SqL K H p (ws.map V.str) ∨ SqT K H p (ws.map V.str)) (h : Q (.bl (if neg then !decide (z ∈ ws) else decide (z ∈ ws))) H) : rIn K neg (.str z) (.ref p) H Q := by
  have e : inV (.str z) (ws.map V.str) = decide (z ∈ ws) := by
    unfold inV
    rw [List.any_map, Bool.eq_iff_iff, List.any_eq_true, decide_eq_true_iff]
    constructor
    · rintro ⟨y, hy, q⟩
      have : y = z := by simpa [eqV] using q
      exact this ▸ hy
    · intro hz
      exact ⟨z, hz, by simp [eqV]⟩
  exact Rd.inS hp rfl (flat_strs ws) (by rw [e]; exact h)
theorem inStrsY {z : Str} {p : Addr} {ws : List Str} {Q : VK} (hp : SqL K H p (ws.map V.str) ∨ SqT K H p (ws.map V.str)) (h : Q (.bl (decide (z ∈ ws))) H) : rIn K false (.str z) (.ref p) H Q := inStrs hp h
theorem inStrsN {z : Str} {p : Addr} {ws : List Str} {Q : VK} (hp : SqL K H p (ws.map V.str) ∨ SqT K H p (ws.map V.str)) (h : Q (.bl (!decide (z ∈ ws))) H) : rIn K true (.str z) (.ref p) H Q := inStrs hp h
theorem inInts {neg : Bool} {z : Int} {p : Addr} {ws : List Int} {Q : VK} (hp : SqL K H p (ws.map V.int) ∨ SqT K H p (ws.map V.int)) (h : Q (.bl (if neg then !decide (z ∈ ws) else decide (z ∈ ws))) H) : rIn K neg (.int z) (.ref p) H Q := by
  have e : inV (.int z) (ws.map V.int) = decide (z ∈ ws) := by
    unfold inV
    rw [List.any_map, Bool.eq_iff_iff, List.any_eq_true, decide_eq_true_iff]
    constructor
    · rintro ⟨y, hy, q⟩
      have : y = z := by simpa [eqV] using q
      exact this ▸ hy
    · intro hz
      exact ⟨z, hz, by simp [eqV]⟩
  exact Rd.inS hp rfl (by rw [List.all_map]; exact List.all_eq_true.mpr fun _ _ => rfl) (by rw [e]; exact h)
theorem inIntsY {z : Int} {p : Addr} {ws : List Int} {Q : VK} (hp : SqL K H p (ws.map V.int) ∨ SqT K H p (ws.map V.int)) (h : Q (.bl (decide (z ∈ ws))) H) : rIn K false (.int z) (.ref p) H Q := inInts hp h
theorem inIntsN {z : Int} {p : Addr} {ws : List Int} {Q : VK} (hp : SqL K H p (ws.map V.int) ∨ SqT K H p (ws.map V.int)) (h : Q (.bl (!decide (z ∈ ws))) H) : rIn K true (.int z) (.ref p) H Q := inInts hp h
theorem map_str {ns : List Str} {i : Nat} (h : i < ns.length) : (ns.map V.str)[i]? = some (.str ns[i]) := by simp [h]
theorem map_strG {ns : List Str} {i : Nat} {x : V} (h : (ns.map V.str)[i]? = some x) : ∃ n, ns[i]? = some n ∧ x = .str n := by
  rw [List.getElem?_map] at h
  cases e : ns[i]? with
  | none => rw [e] at h; cases h
  | some z => rw [e] at h; exact ⟨z, rfl, (Option.some.inj h).symm⟩
theorem map_refG {ns : List Addr} {i : Nat} {x : V} (h : (ns.map V.ref)[i]? = some x) : ∃ n, ns[i]? = some n ∧ x = .ref n := by
  rw [List.getElem?_map] at h
  cases e : ns[i]? with
  | none => rw [e] at h; cases h
  | some z => rw [e] at h; exact ⟨z, rfl, (Option.some.inj h).symm⟩
theorem map_ref {ns : List Addr} {i : Nat} (h : i < ns.length) : (ns.map V.ref)[i]? = some (.ref ns[i]) := by simp [h]
theorem ins {l : Addr} {xs : List V} {i : Int} {y : V} {Q : VK} (hp : H l = some (.lst xs)) (hz : xs.length < sizeLine) (h0 : 0 ≤ i) (h1 : i < 2 ^ 63) (h : ∀ G : Hp, G l = some (.lst (xs.take i.toNat ++ [y] ++ xs.drop i.toNat)) → (∀ b, b ≠ l → G b = H b) → Q .non G) :
    ∃ (l' : Addr) (xs' : List V) (i' : Int) (y' : V), V.ref l = .ref l' ∧ [V.int i, y] = [.int i', y'] ∧ H l' = some (.lst xs') ∧ xs'.length < sizeLine ∧ 0 ≤ i' ∧ i' < 2 ^ 63 ∧ Q .non (upd H l' (.lst (xs'.take i'.toNat ++ [y'] ++ xs'.drop i'.toNat))) :=
  ⟨l, xs, i, y, rfl, rfl, hp, hz, h0, h1, h _ upd_same fun b hb => upd_ne hb⟩
def nInsert : V → List V → Hp → VK → Prop := fun x vs H Q => ∃ (l : Addr) (xs : List V) (i : Int) (y : V), x = .ref l ∧ vs = [.int i, y] ∧ H l = some (.lst xs) ∧ xs.length < sizeLine ∧ 0 ≤ i ∧ i < 2 ^ 63 ∧
    Q .non (upd H l (.lst (xs.take i.toNat ++ [y] ++ xs.drop i.toNat)))
theorem m_insert : MtR X "list.insert" nInsert := mt_insert
theorem insert {l : Addr} {xs : List V} {i : Int} {y : V} {Q : VK} (hp : H l = some (.lst xs)) (hz : xs.length < sizeLine) (h0 : 0 ≤ i) (h1 : i < 2 ^ 63) (h : ∀ G : Hp, G l = some (.lst (xs.take i.toNat ++ [y] ++ xs.drop i.toNat)) → (∀ b, b ≠ l → G b = H b) → Q .non G) : nInsert (.ref l) [.int i, y] H Q :=
  ins hp hz h0 h1 h
/-! ### equal lists of texts -/
theorem dpAll_strs : ∀ ns : List Str, DpAll K H (ns.map V.str) (ns.map PyData.str)
  | [] => .nil
  | n :: ns => .cons (.str n) (dpAll_strs ns)
theorem canLay_strs : ∀ ns : List Str, (∀ z ∈ ns, PyData.strOk z = true) → PyData.canLayAll0 (ns.map PyData.str) = true
  | [], _ => rfl
  | n :: ns, h => by
    show (PyData.canLay0 (.str n) && PyData.canLayAll0 (ns.map PyData.str)) = true
    rw [canLay_strs ns fun z hz => h z (List.mem_cons_of_mem _ hz)]
    show (PyData.strOk n && true) = true
    rw [h n List.mem_cons_self]
    rfl
theorem depth_strs : ∀ ns : List Str, PyData.depthAll (ns.map PyData.str) = 0
  | [] => rfl
  | n :: ns => by
    show max (PyData.depth (.str n)) (PyData.depthAll (ns.map PyData.str)) = 0
    rw [depth_strs ns]
    rfl
theorem shaped_strs {ns : List Str} (h : ∀ z ∈ ns, PyData.strOk z = true) : SeqAt.shaped (.list (ns.map PyData.str)) = true := by
  have h1 : PyData.canLay0 (.list (ns.map PyData.str)) = true := canLay_strs ns h
  have h2 : PyData.depth (.list (ns.map PyData.str)) = 1 := by
    show PyData.depthAll (ns.map PyData.str) + 1 = 1
    rw [depth_strs]
  unfold SeqAt.shaped
  rw [h1, h2]
  rfl
theorem eqStrs {a b : Addr} {ns : List Str} {Q : VK} (h1 : SqL K H a (ns.map V.str)) (h2 : SqL K H b (ns.map V.str)) (h : ∀ z ∈ ns, PyData.strOk z = true) (q : Q (.bl true) H) : rEqD K (.ref a) (.ref b) H Q := by
  refine ⟨_, _, .lst h1 (dpAll_strs ns), .lst h2 (dpAll_strs ns), shaped_strs h, shaped_strs h, ?_⟩
  rw [SeqAt.eqv_refl _ (SeqAt.canLay_of_shaped (shaped_strs h))]
  exact q
theorem neStrs {a b : Addr} {ns : List Str} {Q : VK} (h1 : SqL K H a (ns.map V.str)) (h2 : SqL K H b (ns.map V.str)) (h : ∀ z ∈ ns, PyData.strOk z = true) (q : Q (.bl false) H) : rNeD K (.ref a) (.ref b) H Q := by
  refine ⟨_, _, .lst h1 (dpAll_strs ns), .lst h2 (dpAll_strs ns), shaped_strs h, shaped_strs h, ?_⟩
  rw [SeqAt.eqv_refl _ (SeqAt.canLay_of_shaped (shaped_strs h))]
  exact q
/-! ### equal lists of ints -/
theorem dpAll_ints : ∀ ns : List Int, DpAll K H (ns.map V.int) (ns.map PyData.int)
  | [] => .nil
  | n :: ns => .cons (.int n) (dpAll_ints ns)
theorem canLay_ints : ∀ ns : List Int, PyData.canLayAll0 (ns.map PyData.int) = true
  | [] => rfl
  | n :: ns => by
    show (PyData.canLay0 (.int n) && PyData.canLayAll0 (ns.map PyData.int)) = true
    rw [canLay_ints ns]
    rfl
theorem depth_ints : ∀ ns : List Int, PyData.depthAll (ns.map PyData.int) = 0
  | [] => rfl
  | n :: ns => by
    show max (PyData.depth (.int n)) (PyData.depthAll (ns.map PyData.int)) = 0
    rw [depth_ints ns]
    rfl
theorem shaped_ints (ns : List Int) : SeqAt.shaped (.list (ns.map PyData.int)) = true := by
  have h1 : PyData.canLay0 (.list (ns.map PyData.int)) = true := canLay_ints ns
  have h2 : PyData.depth (.list (ns.map PyData.int)) = 1 := by
    show PyData.depthAll (ns.map PyData.int) + 1 = 1
    rw [depth_ints]
  unfold SeqAt.shaped
  rw [h1, h2]
  rfl
theorem eqv_ints : ∀ (xs ys : List Int), PyData.eqvAll (xs.map PyData.int) (ys.map PyData.int) = decide (xs = ys)
  | [], [] => rfl
  | [], _ :: _ => rfl
  | _ :: _, [] => rfl
  | x :: xs, y :: ys => by
    show (PyData.eqv (.int x) (.int y) && PyData.eqvAll (xs.map PyData.int) (ys.map PyData.int)) = _
    rw [eqv_ints xs ys, Bool.eq_iff_iff]
    show ((x == y) && decide (xs = ys)) = true ↔ _
    simp
theorem eqInts {a b : Addr} {ns ms : List Int} {Q : VK} (h1 : SqL K H a (ns.map V.int)) (h2 : SqL K H b (ms.map V.int)) (q : Q (.bl (decide (ns = ms))) H) : rEqD K (.ref a) (.ref b) H Q := by
  refine ⟨_, _, .lst h1 (dpAll_ints ns), .lst h2 (dpAll_ints ms), shaped_ints ns, shaped_ints ms, ?_⟩
  show Q (.bl (PyData.eqvAll (ns.map PyData.int) (ms.map PyData.int))) H
  rw [eqv_ints]
  exact q
theorem neInts {a b : Addr} {ns ms : List Int} {Q : VK} (h1 : SqL K H a (ns.map V.int)) (h2 : SqL K H b (ms.map V.int)) (q : Q (.bl (!decide (ns = ms))) H) : rNeD K (.ref a) (.ref b) H Q := by
  refine ⟨_, _, .lst h1 (dpAll_ints ns), .lst h2 (dpAll_ints ms), shaped_ints ns, shaped_ints ms, ?_⟩
  show Q (.bl (!PyData.eqvAll (ns.map PyData.int) (ms.map PyData.int))) H
  rw [eqv_ints]
  exact q
/-! ### comprehensions -/
def Lc (J : It) (g : TG) (tt : TT) (te : TE) (vs : List Nat) (σ : L2.St) (H1 : Hp) (Q : VK) : Prop := ∀ D, H1 D = none → ∃ W : Nat → Nat → Hp → Prop, (∃ m, W 0 m (upd H1 D (.lst []))) ∧ ∀ i m H, W i m H →
  (J.stop i H ∧ Q (.ref D) H) ∨ (J.go i H ∧ ∃ Nx : Hp → Prop, (∀ H', Nx H' → ∃ m', m' < m ∧ W (i + 1) m' H') ∧ ∀ x H', J.yld i H x H' → g x (wipe σ vs) H' fun σ2 H2 => wipe σ2 vs = wipe σ vs ∧ tt σ2 H2 fun b H3 =>
    if b = true then te σ2 H3 fun y H4 => ∃ acc, H4 D = some (.lst acc) ∧ acc.length < sizeLine ∧ Nx (upd H4 D (.lst (acc ++ [y]))) else Nx H3)
theorem lc {wi : TI} {g : TG} {tt : TT} {te : TE} {vs : List Nat} {Q : VK} (h : wi σ H fun J H1 => Lc J g tt te vs σ H1 Q) : tLc wi g tt te vs σ H Q := h
theorem istr {te : TE} {R : It → Hp → Prop} (h : te σ H fun v H1 => ∃ x, v = .str x ∧ R (Its x) H1) : iStr te σ H R := h
theorem strE {z : Str} {P : Str → Prop} (h : P z) : ∃ x, V.str z = .str x ∧ P x := ⟨z, rfl, h⟩
theorem tyes {Q : Bool → Hp → Prop} (h : Q true H) : tYes σ H Q := h
/-- the state of a comprehension: the list at D holds acc, all ahead of it stands -/
def LcP (D : Addr) (H1 : Hp) (R : Nat → List V → Hp → Prop) : Nat → Hp → Prop := fun i H => ∃ acc, H D = some (.lst acc) ∧ Same H1 H ∧ R i acc H
def LcPush (D : Addr) (H1 : Hp) (R : Nat → List V → Hp → Prop) (i : Nat) (y : V) (H4 : Hp) : Prop := ∃ acc, H4 D = some (.lst acc) ∧ acc.length < sizeLine ∧ LcP D H1 R (i + 1) (upd H4 D (.lst (acc ++ [y])))
theorem lcPush {D : Addr} {H1 H4 : Hp} {R : Nat → List V → Hp → Prop} {i : Nat} {y : V} {acc : List V} (hD : H4 D = some (.lst acc)) (nD : H1 D = none) (s1 : Same H1 H4) (hz : acc.length < sizeLine) (r : ∀ G : Hp, G D = some (.lst (acc ++ [y])) → (∀ b, b ≠ D → G b = H4 b) → R (i + 1) (acc ++ [y]) G) : LcPush D H1 R i y H4 :=
  ⟨acc, hD, hz, acc ++ [y], upd_same, fun b o e => by rw [upd_ne (ne_of_none e nD)]; exact s1 b o e, r _ upd_same fun b hb => upd_ne hb⟩
theorem lcS {J : It} {n : Nat} {G : Hp → Prop} {Y : Nat → Hp → V → Hp → Prop} (w : Walk J n G Y) {g : TG} {tt : TT} {te : TE} {vs : List Nat} {H1 : Hp} {Q : VK} (hG : ∀ H, Same H1 H → G H) (R : Addr → Nat → List V → Hp → Prop)
    (r0 : ∀ (D : Addr) (G : Hp), H1 D = none → G D = some (.lst []) → Same H1 G → R D 0 [] G)
    (hs : ∀ (D : Addr) i x H H' acc, H1 D = none → i < n → H D = some (.lst acc) → Same H1 H → R D i acc H → Y i H x H' → g x (wipe σ vs) H' fun σ2 H2 => wipe σ2 vs = wipe σ vs ∧ tt σ2 H2 fun b H3 =>
      if b = true then te σ2 H3 fun y H4 => LcPush D H1 (R D) i y H4 else LcP D H1 (R D) (i + 1) H3)
    (hd : ∀ (D : Addr) acc H, H1 D = none → H D = some (.lst acc) → Same H1 H → R D n acc H → Q (.ref D) H) : Lc J g tt te vs σ H1 Q := fun D nD =>
  lc_it w (LcP D H1 (R D)) ⟨[], upd_same, same_upd nD, r0 D _ nD upd_same (same_upd nD)⟩ (fun i H hi ⟨acc, h1, h2, h3⟩ => hG H h2)
    (fun i x H H' hi ⟨acc, h1, h2, h3⟩ y => hs D i x H H' acc nD hi h1 h2 h3 y) (fun H ⟨acc, h1, h2, h3⟩ => hd D acc H nD h1 h2 h3)
/-- .. over a row: a list or a tuple -/
theorem lcRow {a : Addr} {xs : List V} {ta : TE} {g : TG} {tt : TT} {te : TE} {vs : List Nat} {H1 : Hp} {Q : VK} (ea : ∀ Q : VK, Q (.ref a) H1 → ta σ H1 Q) (hr : Ru.SqR K H1 a xs) (R : Addr → Nat → List V → Hp → Prop)
    (r0 : ∀ (D : Addr) (G : Hp), H1 D = none → G D = some (.lst []) → Same H1 G → R D 0 [] G)
    (hs : ∀ (D : Addr) i x H acc, H1 D = none → i < xs.length → H D = some (.lst acc) → Same H1 H → R D i acc H → xs[i]? = some x → g x (wipe σ vs) H fun σ2 H2 => wipe σ2 vs = wipe σ vs ∧ tt σ2 H2 fun b H3 =>
      if b = true then te σ2 H3 fun y H4 => LcPush D H1 (R D) i y H4 else LcP D H1 (R D) (i + 1) H3)
    (hd : ∀ (D : Addr) acc H, H1 D = none → H D = some (.lst acc) → Same H1 H → R D xs.length acc H → Q (.ref D) H) : (fun σ H R => iList K ta σ H R ∨ iTup K ta σ H R) σ H1 fun J H1 => Lc J g tt te vs σ H1 Q := by
  rcases hr with hr | hr
  · exact .inl (ea _ ⟨a, rfl, ⟨_, hr⟩, lcS walk_list (fun _ s => s.seq hr) R r0 (fun D i x H H' acc nD hi hD sm r ⟨e, hx⟩ => by cases e; exact hs D i x H acc nD hi hD sm r hx) hd⟩)
  · exact .inr (ea _ ⟨a, rfl, ⟨_, hr⟩, lcS walk_tup (fun _ s => Ru.same_tup s hr) R r0 (fun D i x H H' acc nD hi hD sm r ⟨e, hx⟩ => by cases e; exact hs D i x H acc nD hi hD sm r hx) hd⟩)
theorem wipeE {A B : L2.St} {P : Prop} (e : A = B) (h : P) : A = B ∧ P := ⟨e, h⟩
/-! ### list(range(..)) -/
theorem lstRg {te : L2.St → Hp → (Int → Int → Hp → Prop) → Prop} {Q : VK} (h : te σ H fun a b H1 => RgOk a b ∧ NewQ (.lst (rgV a b)) Q H1) : tLstRg te σ H Q := h
theorem tupRg {te : L2.St → Hp → (Int → Int → Hp → Prop) → Prop} {Q : VK} (h : te σ H fun a b H1 => RgOk a b ∧ NewQ (.tup (rgV a b)) Q H1) : tTupRg te σ H Q := h
theorem rg1 {ta : TE} {Q : Int → Int → Hp → Prop} (h : ta σ H fun x H1 => ∃ n, x = .int n ∧ Q 0 n H1) : tRg1 ta σ H Q := h
theorem rg2 {ta tb : TE} {Q : Int → Int → Hp → Prop} (h : ta σ H fun x H1 => tb σ H1 fun y H2 => ∃ i j, x = .int i ∧ y = .int j ∧ Q i j H2) : tRg2 ta tb σ H Q := h
theorem intE2 {i j : Int} {P : Int → Int → Prop} (h : P i j) : ∃ a b, V.int i = .int a ∧ V.int j = .int b ∧ P a b := ⟨i, j, rfl, rfl, h⟩
theorem rgV0 (n : Nat) : rgV 0 (n : Int) = ((List.range n).map fun i : Nat => (i : Int)).map V.int := by
  unfold rgV
  rw [List.map_map, show ((n : Int) - 0).toNat = n by omega]
  refine List.map_congr_left fun i _ => ?_
  show V.int (0 + (i : Nat)) = V.int (i : Int)
  rw [Int.zero_add]
/-! ### dicts with ints as keys -/
theorem dnew {Q : VK} (h : ∀ (p : Addr) (G : Hp), H p = none → G p = some (.dK []) → Same H G → Q (.ref p) G) : tDNewK σ H Q :=
  fun p hp => h p _ hp upd_same fun b u e => by rw [upd_ne (ne_of_none e hp)]; exact e
theorem dgetH {td ty : TE} {Q : VK} (h : td σ H fun x H1 => ty σ H1 fun y H2 => ∃ a v, x = .ref a ∧ DGet H2 a y (some v) ∧ Q v H2) : tDGet td ty σ H Q := h
theorem dget {a : Addr} {kvs : List (Key × V)} {k : Int} {v : V} {P : V → Prop} (e : H a = some (.dK kvs)) (hv : valV kvs (.inl k) = some v) (q : P v) : ∃ a' v', V.ref a = .ref a' ∧ DGet H a' (.int k) (some v') ∧ P v' :=
  ⟨a, v, rfl, hv ▸ DGet.k (k := .inl k) e, q⟩
theorem dgetF {a : Addr} {o : Obj} {kvs : List (Key × V)} {k : Int} {v : V} {P : V → Prop} (e : H a = some (.frz o (.dK kvs))) (hv : valV kvs (.inl k) = some v) (q : P v) : ∃ a' v', V.ref a = .ref a' ∧ DGet H a' (.int k) (some v') ∧ P v' :=
  ⟨a, v, rfl, .inl ⟨kvs, .inl k, .inr ⟨o, e⟩, rfl, hv.symm⟩, q⟩
theorem dinH {ty td : TE} {Q : VK} (h : ty σ H fun y H1 => td σ H1 fun x H2 => ∃ a o, x = .ref a ∧ DGet H2 a y o ∧ Q (.bl o.isSome) H2) : tDIn ty td σ H Q := h
theorem dninH {ty td : TE} {Q : VK} (h : ty σ H fun y H1 => td σ H1 fun x H2 => ∃ a o, x = .ref a ∧ DGet H2 a y o ∧ Q (.bl (!o.isSome)) H2) : tDNotIn ty td σ H Q := h
theorem dany {a : Addr} {kvs : List (Key × V)} {k : Int} {P : Option V → Prop} (e : H a = some (.dK kvs)) (q : P (valV kvs (.inl k))) : ∃ a' o, V.ref a = .ref a' ∧ DGet H a' (.int k) o ∧ P o :=
  ⟨a, _, rfl, DGet.k (k := .inl k) e, q⟩
theorem dput {a : Addr} {kvs : List (Key × V)} {k : Int} {v : V} {Q : Hp → Prop} (e : H a = some (.dK kvs)) (hl : kvs.length < sizeLine) (h : ∀ G : Hp, G a = some (.dK (putK kvs (.inl k) v)) → (∀ b, b ≠ a → G b = H b) → Q G) : rSetD (.ref a) (.int k) v H Q :=
  ⟨a, _, rfl, DPut.k (k := .inl k) e hl, h _ upd_same fun b hb => upd_ne hb⟩
theorem dget1H {td ty : TE} {Q : VK} (h : td σ H fun x H1 => ∃ a, x = .ref a ∧ IsD H1 a ∧ ty σ H1 fun y H2 => ∃ o, DGet H2 a y o ∧ Q (o.getD .non) H2) : tDGet1 td ty σ H Q := h
theorem isD {a : Addr} {kvs : List (Key × V)} {P : Addr → Prop} (e : H a = some (.dK kvs)) (q : P a) : ∃ a', V.ref a = .ref a' ∧ IsD H a' ∧ P a' := ⟨a, rfl, .inl ⟨kvs, .inl e⟩, q⟩
theorem dgetO {a : Addr} {kvs : List (Key × V)} {k : Int} {P : Option V → Prop} (e : H a = some (.dK kvs)) (q : P (valV kvs (.inl k))) : ∃ o, DGet H a (.int k) o ∧ P o := ⟨_, DGet.k (k := .inl k) e, q⟩
/-- a for over the keys of a dict that is written nowhere in it -/
theorem forD {td : TE} {g : TG} {tb : TS} {a : Addr} {kvs : List (Key × V)} (hd : H a = some (.dK kvs)) (et : ∀ (H1 : Hp) (Q : VK), Q (.ref a) H1 → td σ H1 Q) (Pv : Nat → L2.St → Hp → Prop)
    (h0 : ∀ od, Pv 0 σ (upd H a (.frz od (.dK kvs)))) (hs : ∀ od i k v σ H, kvs[i]? = some (k, v) → H a = some (.frz od (.dK kvs)) → Pv i σ H → g (kV k) σ H fun σ2 H2 => tb { nx := fun σ' H' => H' a = some (.frz od (.dK kvs)) ∧ Pv (i + 1) σ' H', rt := fun v H' => H' a = some (.frz od (.dK kvs)) ∧ D.rt v (upd H' a (.dK kvs)), bk := fun σ' H' => H' a = some (.frz od (.dK kvs)) ∧ D.nx σ' (upd H' a (.dK kvs)), ct := fun σ' H' => H' a = some (.frz od (.dK kvs)) ∧ Pv (i + 1) σ' H' } σ2 H2)
    (hn : ∀ od σ H, H a = some (.frz od (.dK kvs)) → Pv kvs.length σ H → D.nx σ (upd H a (.dK kvs))) : tLock (tFor (iKeys td) g tb) D σ H := by
  refine ⟨a, .dK kvs, hd, trivial, fun od => ?_⟩
  refine et _ _ ⟨a, od, rfl, .inl ⟨kvs, upd_same, ?_⟩⟩
  exact for_it walk_keys (fun i σ H => H a = some (.frz od (.dK kvs)) ∧ Pv i σ H) ⟨upd_same, h0 od⟩ (fun i σ H _ h => h.1)
    (fun i x σ H H' hi ⟨h1, h2⟩ ⟨e, k, v, hk, hx⟩ => by cases e; cases hx; exact hs od i k v σ H hk h1 h2) (fun σ H ⟨h1, h2⟩ => ⟨h1, hn od σ H h1 h2⟩)
def nListD : List V → Hp → VK → Prop := fun xs H Q => ∃ p kvs, xs = [.ref p] ∧ H p = some (.dK kvs) ∧ ∀ q, H q = none → Q (.ref q) (upd H q (.lst (kvs.map fun kv => kV kv.1)))
theorem listD {a : Addr} {kvs : List (Key × V)} {Q : VK} (e : H a = some (.dK kvs)) (h : NewQ (.lst (kvs.map fun kv => kV kv.1)) Q H) : rListD [.ref a] H Q := ⟨a, kvs, rfl, e, h⟩
/-! ### joins -/
theorem m1 {r : V → List V → Hp → VK → Prop} {to te : TE} {Q : VK} (h : to σ H fun x H1 => (∃ a, x = .str a) ∧ te σ H1 fun y H2 => r x [y] H2 Q) : tM1 r to te σ H Q := h
theorem strX {a : Str} {R : Prop} (h : R) : (∃ b, V.str a = .str b) ∧ R := ⟨⟨a, rfl⟩, h⟩
theorem join {a : Str} {p : Addr} {ys : List Str} {Q : VK} (hp : SqL K H p (ys.map V.str) ∨ SqT K H p (ys.map V.str)) (hz : (ys.map (·.length)).sum + ys.length * a.length ≤ 16777216) (h : Q (.str (Txt.join a ys)) H) :
    ∃ a' p', ∃ ys' : List Str, V.str a = .str a' ∧ [V.ref p] = [.ref p'] ∧ (SqL K H p' (ys'.map V.str) ∨ SqT K H p' (ys'.map V.str)) ∧ (ys'.map (·.length)).sum + ys'.length * a'.length ≤ 16777216 ∧ Q (.str (Txt.join a' ys')) H := ⟨a, p, ys, rfl, rfl, hp, hz, h⟩
/-! ### own objects -/
def FldG (K : PySem.W.Frag) (f : Str) : V → Hp → VK → Prop := fun x H1 Q => ∃ a C dx fs v, x = .ref a ∧ H1 a = some (.ins C dx fs) ∧ Cls K C ∧ NoAttr K C f ∧ fs.lookup f = some v ∧ Q v H1
theorem fldH {ta : TE} {f : Str} {Q : VK} (h : ta σ H fun x H1 => FldG K f x H1 Q) : tFld K ta f σ H Q := h
theorem fld {f : Str} {a C dx : Addr} {fs : List (Str × V)} {v : V} {Q : VK} (e : H a = some (.ins C dx fs)) (c : Cls K C) (n : NoAttr K C f) (l : fs.lookup f = some v) (q : Q v H) : FldG K f (.ref a) H Q := ⟨a, C, dx, fs, v, rfl, e, c, n, l, q⟩
def FldS (K : PySem.W.Frag) (f : Str) (y : V) : V → Hp → (Hp → Prop) → Prop := fun x H2 Q => ∃ a C dx fs, x = .ref a ∧ H2 a = some (.ins C dx fs) ∧ Cls K C ∧ NoAttr K C f ∧ fs.length < 1000 ∧ Q (upd H2 a (.ins C dx (putF f y fs)))
theorem sfldH {ta tv : TE} {f : Str} (h : tv σ H fun y H1 => ta σ H1 fun x H2 => FldS K f y x H2 (D.nx σ)) : sFld K ta tv f D σ H := h
theorem sfld {f : Str} {a C dx : Addr} {fs fs' : List (Str × V)} {y : V} {Q : Hp → Prop} (e : H a = some (.ins C dx fs)) (c : Cls K C) (n : NoAttr K C f) (l : fs.length < 1000) (hf : putF f y fs = fs') (q : ∀ G : Hp, G a = some (.ins C dx fs') → (∀ b, b ≠ a → G b = H b) → Q G) : FldS K f y (.ref a) H Q :=
  ⟨a, C, dx, fs, rfl, e, c, n, l, hf ▸ q _ upd_same fun b hb => upd_ne hb⟩
def MkG (C : Addr) (sp : Sp) (dvs : List V) (E : XK) (vs : List V) (H1 : Hp) (Q : VK) : Prop := ∀ x dx, H1 x = none → H1 dx = none → dx ≠ x → sp (.ref x :: (vs ++ dvs)) (upd (upd H1 dx (.own x)) x (.ins C dx [])) (fun v H2 => v = .non ∧ Q (.ref x) H2) E
theorem mkH {C : Addr} {sp : Sp} {dvs : List V} {E : XK} {t : TA} {Q : VK} (h : t σ H fun vs H1 => MkG C sp dvs E vs H1 Q) : tMake C sp dvs E t σ H Q := h
theorem mk {C : Addr} {sp : Sp} {dvs : List V} {E : XK} {vs : List V} {Q : VK} (h : ∀ (x dx : Addr) (G : Hp), H x = none → H dx = none → dx ≠ x → G x = some (.ins C dx []) → Same H G → (∀ b, b ≠ x → b ≠ dx → G b = H b) → sp (.ref x :: (vs ++ dvs)) G (fun v H2 => v = .non ∧ Q (.ref x) H2) E) : MkG C sp dvs E vs H Q := fun x dx hx hd hne =>
  h x dx _ hx hd hne upd_same (fun b o e => by rw [upd_ne (ne_of_none e hx), upd_ne (ne_of_none e hd)]; exact e) fun b h1 h2 => by rw [upd_ne h1, upd_ne h2]
def MethG (C : Addr) (m : Str) (x : V) (H : Hp) (Q : Prop) : Prop := ∃ a dx fs, x = .ref a ∧ H a = some (.ins C dx fs) ∧ fs.lookup m = none ∧ Q
theorem methH {C : Addr} {m : Str} {sp : Sp} {dvs : List V} {E : XK} {ta : TE} {t : TA} {Q : VK} (h : ta σ H fun x H1 => MethG C m x H1 (t σ H1 fun vs H2 => sp (x :: (vs ++ dvs)) H2 Q E)) : tMeth C m sp dvs E ta t σ H Q := h
theorem meth {C : Addr} {m : Str} {a dx : Addr} {fs : List (Str × V)} {Q : Prop} (e : H a = some (.ins C dx fs)) (l : fs.lookup m = none) (q : Q) : MethG C m (.ref a) H Q := ⟨a, dx, fs, rfl, e, l, q⟩
/-! ### isinstance -/
theorem isi {x : V} {a b : String} {r : Bool} {Q : VK} (ht : TyX K H x (.type a)) (h : kitB a b = some r) (q : Q (.bl r) H) : rIsi K [x, .ty b] H Q := ⟨_, _, _, _, r, rfl, .ty b, ht, kit_ty h, q⟩
theorem isiStr {z : Str} {Q : VK} (q : Q (.bl true) H) : rIsi K [.str z, .ty "str"] H Q := isi (.base (.str z)) (by decide +kernel) q
theorem isiB {z : Bool} {Q : VK} (q : Q (.bl true) H) : rIsi K [.bl z, .ty "bool"] H Q := isi (.base (.bl z)) (by decide +kernel) q
theorem isiI {z : Int} {Q : VK} (q : Q (.bl true) H) : rIsi K [.int z, .ty "int"] H Q := isi (.base (.int z)) (by decide +kernel) q
theorem isiIB {z : Int} {Q : VK} (q : Q (.bl false) H) : rIsi K [.int z, .ty "bool"] H Q := isi (.base (.int z)) (by decide +kernel) q
end Rd
namespace W
open PySem PySem.Spec PyProof.Rows L2
theorem kit_self {K : PySem.W.Frag} {C : Addr} : PySem.W.kitOne K (.ref C) (.ref C) = some true := by
  unfold PySem.W.kitOne
  simp
/-- what isinstance asks of an own class -/
structure OwnTy (K : PySem.W.Frag) (C : Addr) : Prop where
  ha : PySem.W.findIn K (.ref C) "__class__" = some (some (.builtin "object.__class__"))
  hn : PySem.W.specialIn K (.builtin "object.__class__") "__get__" = some (some (.builtin "getset_descriptor.__get__"))
  htk : PySem.W.takesIn K (.builtin "object.__class__") = some true
  hm : PySem.W.mroIn K C (.type "object") = some true
  me : PySem.W.kitOne K (.ref C) (.ref C) = some true
theorem isiOwn {K : PySem.W.Frag} {H : Hp} {a C dx : Addr} {fs : List (Str × V)} {Q : VK} (c : Cls K C) (o : OwnTy K C) (e : H a = some (.ins C dx fs)) (q : Q (.bl true) H) : rIsi K [.ref a, .ref C] H Q :=
  ⟨_, _, _, _, true, rfl, .own C, .base (.ins e c o.ha o.hn o.htk o.hm), o.me, q⟩
end W
/-! ### letters -/
namespace Lt
open PySem PySem.Spec PyProof.Rows L2
def Abc : Str := "abcdefghijklmnopqrstuvwxyz"
def Let (z : Str) : Prop := ∀ c ∈ z.cps.toList, c ∈ Abc.cps.toList
theorem Let.app {a b : Str} (x : Let a) (y : Let b) : Let (a ++ b) := fun c h => by
  have : c ∈ a.cps.toList ++ b.cps.toList := by
    rw [← Array.toList_append]
    exact h
  exact (List.mem_append.mp this).elim (x c) (y c)
theorem len_app (a b : Str) : (a ++ b).length = a.length + b.length := Array.size_append
theorem Let.cut {z : Str} (x : Let z) (lo hi : Option Int) : Let (cutS z lo hi) := fun c h => x c (List.mem_of_mem_drop (List.mem_of_mem_take (show c ∈ (z.cps.toList.drop _).take _ from by simpa [cutS] using h)))
theorem Let.one {c : Nat} (h : c ∈ Abc.cps.toList) : Let ⟨#[c]⟩ := fun d hd => by
  have : d = c := by simpa using hd
  exact this ▸ h
theorem Let.empty : Let "" := fun c h => by exact absurd h (by decide +revert)
theorem Let.ok {z : Str} (x : Let z) : PyData.strOk z = true := by
  unfold PyData.strOk
  rw [Array.all_eq_true']
  intro c hc
  have h := x c (by simpa using hc)
  have : ∀ c ∈ Abc.cps.toList, decide (c < 0x110000) = true := by decide +kernel
  exact this c h
theorem Let.char {z : Str} (x : Let z) {c : Nat} {i : Nat} (h : z.cps.toList[i]? = some c) : c ∈ Abc.cps.toList := x c (List.mem_of_getElem? h)
theorem cut_len {z : Str} {a b : Nat} (h : a ≤ b) (hb : b ≤ z.length) : (cutS z (some (a : Int)) (some (b : Int))).length = b - a := by
  show (((z.cps.toList.drop (HT.sIx z.length 0 (some (a : Int)))).take (HT.sIx z.length z.length (some (b : Int)) - HT.sIx z.length 0 (some (a : Int)))).toArray).size = b - a
  rw [List.size_toArray, List.length_take, List.length_drop, Array.length_toList, HT.sIx_nat, HT.sIx_nat]
  unfold Str.length at hb ⊢
  omega
theorem cut_lenI {z : Str} {a b : Int} (h0 : 0 ≤ a) (h : a ≤ b) (hb : b ≤ z.length) : ((cutS z (some a) (some b)).length : Int) = b - a := by
  have := cut_len (z := z) (a := a.toNat) (b := b.toNat) (by omega) (by omega)
  rw [show ((a.toNat : Nat) : Int) = a by omega, show ((b.toNat : Nat) : Int) = b by omega] at this
  omega
theorem cut_from {z : Str} {a : Int} (h0 : 0 ≤ a) (h : a ≤ z.length) : ((cutS z (some a) none).length : Int) = z.length - a := by
  have e : (cutS z (some a) none).length = z.length - a.toNat := by
    show (((z.cps.toList.drop (HT.sIx z.length 0 (some a))).take (HT.sIx z.length z.length none - HT.sIx z.length 0 (some a))).toArray).size = _
    have e1 : HT.sIx z.length 0 (some a) = a.toNat := by
      have := HT.sIx_nat z.length 0 a.toNat
      rw [show ((a.toNat : Nat) : Int) = a by omega] at this
      rw [this]
      omega
    rw [List.size_toArray, List.length_take, List.length_drop, Array.length_toList, e1]
    show min (z.length - a.toNat) (z.cps.size - a.toNat) = _
    unfold Str.length
    omega
  omega
theorem cut_to {z : Str} {b : Int} (h0 : 0 ≤ b) : ((cutS z none (some b)).length : Int) = min b z.length := by
  have e : (cutS z none (some b)).length = min b.toNat z.length := by
    show (((z.cps.toList.drop (HT.sIx z.length 0 none)).take (HT.sIx z.length z.length (some b) - HT.sIx z.length 0 none)).toArray).size = _
    have e1 : HT.sIx z.length z.length (some b) = min b.toNat z.length := by
      have := HT.sIx_nat z.length z.length b.toNat
      rw [show ((b.toNat : Nat) : Int) = b by omega] at this
      exact this
    have e2 : HT.sIx z.length 0 none = 0 := rfl
    rw [List.size_toArray, List.length_take, List.length_drop, Array.length_toList, e1, e2]
    unfold Str.length
    omega
  omega
theorem join_let : ∀ ys : List Str, (∀ y ∈ ys, Let y) → Let (Str.join "" ys) ∧ (Str.join "" ys).length = (ys.map (·.length)).sum
  | [], _ => ⟨fun c h => by exact absurd h (by decide +revert), by decide +kernel⟩
  | [y], h => ⟨h y (by simp), by simp [Str.join]⟩
  | y :: z :: r, h => by
    have ih := join_let (z :: r) fun x hx => h x (List.mem_cons_of_mem _ hx)
    have e : Str.join "" (y :: z :: r) = y ++ "" ++ Str.join "" (z :: r) := rfl
    rw [e]
    refine ⟨((h y List.mem_cons_self).app Let.empty).app ih.1, ?_⟩
    rw [len_app, len_app, ih.2, show (Str.ofString "").length = 0 by decide +kernel]
    show y.length + 0 + _ = (y.length :: (z :: r).map (·.length)).sum
    rw [List.sum_cons]
    rfl
theorem join_one {ys : List Str} {n : Nat} (hl : ys.length = n) (h : ∀ y ∈ ys, Let y ∧ y.length = 1) : Let (Txt.join "" ys) ∧ (Txt.join "" ys).length = n ∧ (ys.map (·.length)).sum = n := by
  have j := join_let ys fun y hy => (h y hy).1
  have e : (ys.map (·.length)).sum = ys.length := by
    clear j hl
    induction ys with
    | nil => rfl
    | cons y r ih => rw [List.map_cons, List.sum_cons, ih fun x hx => h x (List.mem_cons_of_mem _ hx), (h y List.mem_cons_self).2, List.length_cons]; omega
  rw [TL.join_eq]
  exact ⟨j.1, by rw [j.2, e, hl], by rw [e, hl]⟩
theorem ne_of_len {z : Str} (h : 0 < z.length) : ¬ z = "" := fun e => by
  subst e
  exact absurd h (by decide +revert)
theorem len_of_ne {z : Str} (h : ¬ z = "") : 0 < z.length := by
  rcases Nat.eq_zero_or_pos z.length with e | e
  · exfalso
    refine h ?_
    have : z.cps = #[] := Array.eq_empty_of_size_eq_zero e
    cases z
    simp only at this
    subst this
    decide +kernel
  · exact e
/-- a word: some letters, at least one, at most n -/
structure Wd (n : Int) (z : Str) : Prop where
  ok : Let z
  l0 : 1 ≤ z.length
  l1 : (z.length : Int) ≤ n
theorem Wd.mono {n m : Int} {z : Str} (h : Wd n z) (k : n ≤ m) : Wd m z := ⟨h.ok, h.l0, Int.le_trans h.l1 k⟩
theorem Wd.line {n : Int} {z : Str} (h : Wd n z) (k : n ≤ 1000000) : z.length ≤ sizeLine := by
  have := h.l1
  rw [sizeLine_eq]
  omega
end Lt
namespace W
open PySem PySem.Spec PyProof.Rows L2
/-! ### the tape, books -/
def Tape (H : Hp) (t c : Addr) : Prop := ∃ (ns : List Int) (x y z u : Int), t ≠ c ∧ H t = some (.lst [.ref c, .int x, .int y, .int z, .int u]) ∧ H c = some (.lst (ns.map V.int)) ∧ 0 ≤ x ∧ x ≤ ns.length ∧ 0 ≤ z ∧ z < 2147483647
theorem Tape.same {H H' : Hp} {t c : Addr} (h : Tape H t c) (s : Same H H') : Tape H' t c := by
  obtain ⟨ns, x, y, z, u, n, h1, h2, r⟩ := h
  exact ⟨ns, x, y, z, u, n, s _ _ h1, s _ _ h2, r⟩
theorem Tape.off {H H' : Hp} {t c l : Addr} (h : Tape H t c) (h1 : l ≠ t) (h2 : l ≠ c) (e : ∀ b, b ≠ l → H' b = H b) : Tape H' t c := by
  obtain ⟨ns, x, y, z, u, n, g1, g2, r⟩ := h
  exact ⟨ns, x, y, z, u, n, by rw [e t h1.symm]; exact g1, by rw [e c h2.symm]; exact g2, r⟩
theorem Tape.new {H : Hp} {t c l : Addr} (h : Tape H t c) (n : H l = none) : l ≠ t ∧ l ≠ c := by
  obtain ⟨ns, x, y, z, u, _, g1, g2, r⟩ := h
  exact ⟨(ne_of_none g1 n).symm, (ne_of_none g2 n).symm⟩
theorem _root_.Rd.tape_same {H H' : Hp} {t c : Addr} (s : Same H H') (h : Tape H t c) : Tape H' t c := h.same s
theorem _root_.Rd.ntT {H : Hp} {t c l : Addr} (n : H l = none) (h : Tape H t c) : l ≠ t := (h.new n).1
theorem _root_.Rd.ntT' {H : Hp} {t c l : Addr} (n : H l = none) (h : Tape H t c) : l ≠ c := (h.new n).2
/-- some watches: no two alike, at most twelve, each of some letters -/
structure Watches (ws : List Str) : Prop where
  nd : ws.Nodup
  l1 : ws.length ≤ 12
  ok : ∀ z ∈ ws, Lt.Wd 12 z
/-- a book of the watches ws stands at b -/
def BookAt (C : Addr) (H : Hp) (b : Addr) (ws : List Str) : Prop := ∃ dx t, H b = some (.ins C dx [("watches", .ref t)]) ∧ H t = some (.tup (ws.map V.str))
theorem BookAt.same {C : Addr} {H H' : Hp} {b : Addr} {ws : List Str} (h : BookAt C H b ws) (s : Same H H') : BookAt C H' b ws := let ⟨dx, t, h1, h2⟩ := h; ⟨dx, t, s _ _ h1, s _ _ h2⟩
theorem BookAt.but {C t c : Addr} {H H' : Hp} {b : Addr} {ws : List Str} (h : BookAt C H b ws) (tp : Tape H t c) (s : Rd.But t H H') : BookAt C H' b ws := by
  obtain ⟨dx, q, h1, h2⟩ := h
  obtain ⟨ns, x, y, z, u, _, g1, g2, r⟩ := tp
  exact ⟨dx, q, s _ _ (ne_of h1 g1 (fun e => nomatch e)) h1, s _ _ (ne_of h2 g1 (fun e => nomatch e)) h2⟩
theorem snoc_nodup {α : Type} {ws : List α} {y : α} (nd : ws.Nodup) (q : ¬ y ∈ ws) : (ws ++ [y]).Nodup := by
  rw [List.nodup_append]
  exact ⟨nd, by simp, fun x hx z hz e => q (by simp at hz; rw [← hz, ← e]; exact hx)⟩
theorem _root_.Rd.book_same {C : Addr} {H H' : Hp} {b : Addr} {ws : List Str} (s : Same H H') (h : BookAt C H b ws) : BookAt C H' b ws := h.same s
theorem _root_.Rd.book_but {C t c : Addr} {H H' : Hp} {b : Addr} {ws : List Str} (s : Rd.But t H H') (tp : Tape H t c) (h : BookAt C H b ws) : BookAt C H' b ws := h.but tp s
end W
/-! ### what is kept, for the search by hypotheses -/
namespace Rd
open PySem PySem.Spec PyProof.Rows L2
variable {H H' : Hp} {K : PySem.W.Frag}
theorem neN {H : Hp} {a b : Addr} {o : HO} (h' : H b = none) (h : H a = some o) : a ≠ b := ne_of_none h h'
theorem neN' {H : Hp} {a b : Addr} {o : HO} (h' : H b = none) (h : H a = some o) : b ≠ a := (ne_of_none h h').symm
theorem same_tr {H H1 H2 : Hp} (b : Same H1 H2) (a : Same H H1) : Same H H2 := a.trans b
theorem but_tr {t : Addr} {H H1 H2 : Hp} (b : But t H1 H2) (a : But t H H1) : But t H H2 := a.trans b
theorem but_sm {t : Addr} {H H1 H2 : Hp} (b : Same H1 H2) (a : But t H H1) : But t H H2 := a.same b
theorem same_of2 {l : Addr} {H0 H H' : Hp} (off : ∀ b, b ≠ l → H' b = H b) (n : H0 l = none) (s : Same H0 H) : Same H0 H' := fun b o e => by rw [off b (ne_of_none e n)]; exact s b o e
theorem but_of2 {t l : Addr} {H0 H H' : Hp} (off : ∀ b, b ≠ l → H' b = H b) (n : H0 l = none) (s : But t H0 H) : But t H0 H' := fun b o h e => by rw [off b (ne_of_none e n)]; exact s b o h e
theorem at_same {a : Addr} {o : HO} (s : Same H H') (e : H a = some o) : H' a = some o := s a o e
theorem at_but {t a : Addr} {o : HO} (b : But t H H') (n : a ≠ t) (e : H a = some o) : H' a = some o := b a o n e
theorem at_off {l a : Addr} {o : HO} (off : ∀ b, b ≠ l → H' b = H b) (n : a ≠ l) (e : H a = some o) : H' a = some o := by rw [off a n]; exact e
theorem same_off {l : Addr} {H0 : Hp} (s : Same H0 H) (n : H0 l = none) (off : ∀ b, b ≠ l → H' b = H b) : Same H0 H' := fun b o e => by rw [off b (ne_of_none e n)]; exact s b o e
theorem but_off' {t l : Addr} {H0 : Hp} (s : But t H0 H) (n : H0 l = none) (off : ∀ b, b ≠ l → H' b = H b) : But t H0 H' := fun b o h e => by rw [off b (ne_of_none e n)]; exact s b o h e
theorem lenS {p : Addr} {ys : List Str} {H : Hp} {Q : VK} (hp : SqL K H p (ys.map V.str) ∨ SqT K H p (ys.map V.str)) (h : Q (.int (ys.length : Nat)) H) : nLen K [.ref p] H Q := ⟨p, _, rfl, hp, by rw [List.length_map]; exact h⟩
theorem lenI {p : Addr} {ys : List Int} {H : Hp} {Q : VK} (hp : SqL K H p (ys.map V.int) ∨ SqT K H p (ys.map V.int)) (h : Q (.int (ys.length : Nat)) H) : nLen K [.ref p] H Q := ⟨p, _, rfl, hp, by rw [List.length_map]; exact h⟩
theorem lenR {p : Addr} {ys : List Addr} {H : Hp} {Q : VK} (hp : SqL K H p (ys.map V.ref) ∨ SqT K H p (ys.map V.ref)) (h : Q (.int (ys.length : Nat)) H) : nLen K [.ref p] H Q := ⟨p, _, rfl, hp, by rw [List.length_map]; exact h⟩
end Rd

/-! Plain law: spots of a word, joined by watches that occur. -/
namespace Mw
open PySem PySem.Spec PyProof.Rows L2
/-- led on from x -/
inductive Star (R : Nat → Nat → Prop) (x : Nat) : Nat → Prop where
  | refl : Star R x x
  | step {y z : Nat} (h : Star R x y) (r : R y z) : Star R x z
theorem Star.one {R : Nat → Nat → Prop} {x y : Nat} (r : R x y) : Star R x y := .step .refl r
theorem Star.trans {R : Nat → Nat → Prop} {x y z : Nat} (a : Star R x y) (b : Star R y z) : Star R x z := by
  induction b with
  | refl => exact a
  | step _ r ih => exact .step ih r
theorem Star.symm {R : Nat → Nat → Prop} (s : ∀ x y, R x y → R y x) {x y : Nat} (a : Star R x y) : Star R y x := by
  induction a with
  | refl => exact .refl
  | step _ r ih => exact (Star.one (s _ _ r)).trans ih
theorem Star.mono {R S : Nat → Nat → Prop} (s : ∀ x y, R x y → S x y) {x y : Nat} (a : Star R x y) : Star S x y := by
  induction a with
  | refl => exact .refl
  | step _ r ih => exact .step ih (s _ _ r)
theorem Star.iff {R S : Nat → Nat → Prop} (s : ∀ x y, R x y ↔ S x y) {x y : Nat} : Star R x y ↔ Star S x y := ⟨Star.mono fun x y => (s x y).mp, Star.mono fun x y => (s x y).mpr⟩
/-- W occurs in z from s -/
def Occ (W z : Str) (s : Nat) : Prop := s + W.length ≤ z.length ∧ cutS z (some (s : Int)) (some ((s : Int) + (W.length : Int))) = W
/-- two spots joined by W, W from a spot below m -/
def EdgeB (W z : Str) (m : Nat) (i j : Nat) : Prop := (i < m ∧ Occ W z i ∧ j = i + W.length) ∨ (j < m ∧ Occ W z j ∧ i = j + W.length)
def Edge (W z : Str) (i j : Nat) : Prop := (Occ W z i ∧ j = i + W.length) ∨ (Occ W z j ∧ i = j + W.length)
def Adj (ws : List Str) (z : Str) (i j : Nat) : Prop := ∃ W ∈ ws, Edge W z i j
def AdjB (ws : List Str) (W z : Str) (m : Nat) (i j : Nat) : Prop := Adj ws z i j ∨ EdgeB W z m i j
/-- the watches tell the word -/
def Told (ws : List Str) (z : Str) : Prop := Star (Adj ws z) 0 z.length
theorem Edge.symm {W z : Str} {i j : Nat} (h : Edge W z i j) : Edge W z j i := h.elim .inr .inl
theorem Adj.symm {ws : List Str} {z : Str} (i j : Nat) (h : Adj ws z i j) : Adj ws z j i := let ⟨W, m, e⟩ := h; ⟨W, m, e.symm⟩
theorem EdgeB.symm {W z : Str} {m i j : Nat} (h : EdgeB W z m i j) : EdgeB W z m j i := h.elim .inr .inl
theorem AdjB.symm {ws : List Str} {W z : Str} {m : Nat} (i j : Nat) (h : AdjB ws W z m i j) : AdjB ws W z m j i := h.elim (fun h => .inl (Adj.symm _ _ h)) fun h => .inr h.symm
theorem Adj.le {ws : List Str} {z : Str} {i j : Nat} (h : Adj ws z i j) : i ≤ z.length ∧ j ≤ z.length := by
  obtain ⟨W, _, ⟨o, e⟩ | ⟨o, e⟩⟩ := h <;> have := o.1 <;> omega
theorem adj_nil {z : Str} {i j : Nat} : ¬ Adj [] z i j := fun ⟨_, h, _⟩ => by simp at h
theorem adjB_zero {ws : List Str} {W z : Str} {i j : Nat} : AdjB ws W z 0 i j ↔ Adj ws z i j := ⟨fun h => h.elim id fun h => by rcases h with ⟨h, _⟩ | ⟨h, _⟩ <;> omega, .inl⟩
theorem adjB_all {ws : List Str} {W z : Str} {i j : Nat} {n : Nat} (hn : (n : Int) = ((z.length : Int) - (W.length : Int) + 1).toNat) : AdjB ws W z n i j ↔ Adj (ws ++ [W]) z i j := by
  constructor
  · rintro (⟨V, h, e⟩ | ⟨_, o, e⟩ | ⟨_, o, e⟩)
    · exact ⟨V, List.mem_append.mpr (.inl h), e⟩
    · exact ⟨W, List.mem_append.mpr (.inr (by simp)), .inl ⟨o, e⟩⟩
    · exact ⟨W, List.mem_append.mpr (.inr (by simp)), .inr ⟨o, e⟩⟩
  · rintro ⟨V, h, e⟩
    rcases List.mem_append.mp h with h | h
    · exact .inl ⟨V, h, e⟩
    · simp at h
      subst h
      rcases e with ⟨o, e⟩ | ⟨o, e⟩
      · exact .inr (.inl ⟨by have := o.1; omega, o, e⟩)
      · exact .inr (.inr ⟨by have := o.1; omega, o, e⟩)
theorem adjB_no {ws : List Str} {W z : Str} {m : Nat} {i j : Nat} (h : ¬ Occ W z m) : AdjB ws W z (m + 1) i j ↔ AdjB ws W z m i j := by
  unfold AdjB EdgeB
  constructor
  · rintro (a | ⟨l, o, e⟩ | ⟨l, o, e⟩)
    · exact .inl a
    · rcases Nat.lt_succ_iff_lt_or_eq.mp l with l | l
      · exact .inr (.inl ⟨l, o, e⟩)
      · exact absurd (l ▸ o) h
    · rcases Nat.lt_succ_iff_lt_or_eq.mp l with l | l
      · exact .inr (.inr ⟨l, o, e⟩)
      · exact absurd (l ▸ o) h
  · rintro (a | ⟨l, o, e⟩ | ⟨l, o, e⟩)
    · exact .inl a
    · exact .inr (.inl ⟨by omega, o, e⟩)
    · exact .inr (.inr ⟨by omega, o, e⟩)
theorem adjB_yes {ws : List Str} {W z : Str} {m : Nat} {i j : Nat} (h : Occ W z m) : AdjB ws W z (m + 1) i j ↔ AdjB ws W z m i j ∨ (i = m ∧ j = m + W.length) ∨ (j = m ∧ i = m + W.length) := by
  unfold AdjB EdgeB
  constructor
  · rintro (a | ⟨l, o, e⟩ | ⟨l, o, e⟩)
    · exact .inl (.inl a)
    · rcases Nat.lt_succ_iff_lt_or_eq.mp l with l | l
      · exact .inl (.inr (.inl ⟨l, o, e⟩))
      · exact .inr (.inl ⟨l, by omega⟩)
    · rcases Nat.lt_succ_iff_lt_or_eq.mp l with l | l
      · exact .inl (.inr (.inr ⟨l, o, e⟩))
      · exact .inr (.inr ⟨l, by omega⟩)
  · rintro ((a | ⟨l, o, e⟩ | ⟨l, o, e⟩) | ⟨l, e⟩ | ⟨l, e⟩)
    · exact .inl a
    · exact .inr (.inl ⟨by omega, o, e⟩)
    · exact .inr (.inr ⟨by omega, o, e⟩)
    · subst l; exact .inr (.inl ⟨by omega, h, e⟩)
    · subst l; exact .inr (.inr ⟨by omega, h, e⟩)
/-! ### no two alike among few -/
theorem nodup_le {α : Type} [DecidableEq α] : ∀ (l m : List α), l.Nodup → (∀ x ∈ l, x ∈ m) → l.length ≤ m.length
  | [], _, _, _ => Nat.zero_le _
  | a :: t, m, nd, h => by
    have ⟨h1, h2⟩ := List.nodup_cons.mp nd
    have ha := h a List.mem_cons_self
    have := nodup_le t (m.erase a) h2 fun x hx => (List.mem_erase_of_ne fun e : x = a => h1 (by rw [← e]; exact hx)).mpr (h x (List.mem_cons_of_mem _ hx))
    rw [List.length_erase_of_mem ha] at this
    have := List.length_pos_of_mem ha
    rw [List.length_cons]
    omega
theorem nodup_range {l : List Int} {n : Nat} (nd : l.Nodup) (h : ∀ x ∈ l, 0 ≤ x ∧ x ≤ n) : l.length ≤ n + 1 := by
  have := nodup_le l ((List.range (n + 1)).map fun i : Nat => (i : Int)) nd fun x hx => by
    have := h x hx
    exact List.mem_map.mpr ⟨x.toNat, List.mem_range.mpr (by omega), by omega⟩
  rw [List.length_map, List.length_range] at this
  exact this
/-! ### marks -/
/-- alike marks are led to one another, and the other way round -/
def Lab (R : Nat → Nat → Prop) (n : Nat) (ms : List Int) : Prop := ms.length = n + 1 ∧ ∀ i j (x y : Int), ms[i]? = some x → ms[j]? = some y → (x = y ↔ Star R i j)
theorem Lab.start {n : Nat} {R : Nat → Nat → Prop} (hR : ∀ i j, ¬ R i j) : Lab R n ((List.range (n + 1)).map fun i : Nat => (i : Int)) := by
  refine ⟨by simp, fun i j x y hx hy => ?_⟩
  have e1 : x = i := by
    rw [List.getElem?_map] at hx
    cases q : (List.range (n + 1))[i]? with
    | none => rw [q] at hx; cases hx
    | some k =>
      rw [q] at hx
      have : i = k := by
        have := List.getElem?_eq_some_iff.mp q
        obtain ⟨h, e⟩ := this
        simpa using e
      subst this
      exact (Option.some.inj hx).symm
  have e2 : y = j := by
    rw [List.getElem?_map] at hy
    cases q : (List.range (n + 1))[j]? with
    | none => rw [q] at hy; cases hy
    | some k =>
      rw [q] at hy
      have : j = k := by
        have := List.getElem?_eq_some_iff.mp q
        obtain ⟨h, e⟩ := this
        simpa using e
      subst this
      exact (Option.some.inj hy).symm
  subst e1 e2
  constructor
  · intro h
    have : i = j := by omega
    exact this ▸ .refl
  · intro h
    cases h with
    | refl => rfl
    | step _ r => exact absurd r (hR _ _)
theorem Lab.iff {R S : Nat → Nat → Prop} {n : Nat} {ms : List Int} (h : Lab R n ms) (s : ∀ x y, R x y ↔ S x y) : Lab S n ms := ⟨h.1, fun i j x y hx hy => (h.2 i j x y hx hy).trans (Star.iff s)⟩
/-- one more pair: alike already -/
theorem Lab.same {R S : Nat → Nat → Prop} {n : Nat} {ms : List Int} (h : Lab R n ms) {a b : Nat} {x : Int} (ha : ms[a]? = some x) (hb : ms[b]? = some x) (sy : ∀ x y, R x y → R y x) (s : ∀ i j, S i j ↔ R i j ∨ (i = a ∧ j = b) ∨ (j = a ∧ i = b)) : Lab S n ms := by
  refine ⟨h.1, fun i j u v hu hv => (h.2 i j u v hu hv).trans ⟨Star.mono fun i j r => (s i j).mpr (.inl r), fun q => ?_⟩⟩
  have ab : Star R a b := (h.2 a b x x ha hb).mp rfl
  clear hv
  induction q with
  | refl => exact .refl
  | step _ r ih =>
    rcases (s _ _).mp r with r | ⟨rfl, rfl⟩ | ⟨rfl, rfl⟩
    · exact .step ih r
    · exact ih.trans ab
    · exact ih.trans (ab.symm sy)
/-- .. not alike: the one mark gives way to the other -/
theorem Lab.join {R S : Nat → Nat → Prop} {n : Nat} {ms : List Int} (h : Lab R n ms) {a b : Nat} {x y : Int} (ha : ms[a]? = some x) (hb : ms[b]? = some y) (hR : ∀ i j, R i j → i ≤ n ∧ j ≤ n) (sy : ∀ x y, R x y → R y x) (s : ∀ i j, S i j ↔ R i j ∨ (i = a ∧ j = b) ∨ (j = a ∧ i = b)) :
    Lab S n (ms.map fun m => if m = y then x else m) := by
  refine ⟨by rw [List.length_map]; exact h.1, fun i j u v hu hv => ?_⟩
  have get : ∀ {i : Nat} {u : Int}, (ms.map fun m => if m = y then x else m)[i]? = some u → ∃ u0, ms[i]? = some u0 ∧ u = if u0 = y then x else u0 := fun {i u} hu => by
    rw [List.getElem?_map] at hu
    cases q : ms[i]? with
    | none => rw [q] at hu; cases hu
    | some k => rw [q] at hu; exact ⟨k, rfl, (Option.some.inj hu).symm⟩
  obtain ⟨u0, hu0, eu⟩ := get hu
  obtain ⟨v0, hv0, ev⟩ := get hv
  have up : ∀ {i j : Nat}, Star R i j → Star S i j := fun q => q.mono fun i j r => (s i j).mpr (.inl r)
  have ab : Star S a b := .one ((s a b).mpr (.inr (.inl ⟨rfl, rfl⟩)))
  have ba : Star S b a := .one ((s b a).mpr (.inr (.inr ⟨rfl, rfl⟩)))
  constructor
  · intro e
    by_cases c1 : u0 = y
    · have ib : Star S i b := up ((h.2 i b u0 y hu0 hb).mp c1)
      by_cases c2 : v0 = y
      · exact up ((h.2 i j u0 v0 hu0 hv0).mp (c1.trans c2.symm))
      · rw [if_pos c1] at eu
        rw [if_neg c2] at ev
        have aj : Star S a j := up ((h.2 a j x v0 ha hv0).mp (by omega))
        exact (ib.trans ba).trans aj
    · rw [if_neg c1] at eu
      by_cases c2 : v0 = y
      · rw [if_pos c2] at ev
        have bj : Star S b j := up ((h.2 b j y v0 hb hv0).mp c2.symm)
        have ia : Star S i a := up ((h.2 i a u0 x hu0 ha).mp (by omega))
        exact (ia.trans ab).trans bj
      · rw [if_neg c2] at ev
        exact up ((h.2 i j u0 v0 hu0 hv0).mp (by omega))
  · intro q
    have la : a ≤ n := by have := (List.getElem?_eq_some_iff.mp ha).1; have := h.1; omega
    have lb : b ≤ n := by have := (List.getElem?_eq_some_iff.mp hb).1; have := h.1; omega
    -- every spot on the way has its mark
    have key : ∀ {k : Nat}, Star S i k → ∀ w0 : Int, ms[k]? = some w0 → (if u0 = y then x else u0) = if w0 = y then x else w0 := by
      intro k q
      induction q with
      | refl =>
        intro w0 hw
        rw [hu0] at hw
        cases hw
        rfl
      | @step k l _ r ih =>
        intro w0 hw
        have inR : ∀ m : Nat, m ≤ n → ∃ m0, ms[m]? = some m0 := fun m hm => ⟨_, List.getElem?_eq_getElem (by have := h.1; omega)⟩
        rcases (s _ _).mp r with r | ⟨rfl, rfl⟩ | ⟨rfl, rfl⟩
        · obtain ⟨k0, hk⟩ := inR k (hR _ _ r).1
          rw [ih k0 hk, (h.2 k l k0 w0 hk hw).mpr (.one r)]
        · rw [ih x ha]
          rw [hb] at hw
          cases hw
          rw [if_pos rfl]
          split <;> rfl
        · rw [ih y hb]
          rw [ha] at hw
          cases hw
          rw [if_pos rfl]
          split <;> rfl
    rw [eu, ev]
    exact key q v0 hv0
end Mw

/-! Plain law: distances, the least of the shortest ways. -/
namespace Mz
open PySem PySem.Spec PyProof.Rows L2
/-- k steps from x to y -/
def Steps (A : Nat → Nat → Prop) : Nat → Nat → Nat → Prop
  | 0, x, y => x = y
  | k + 1, x, z => ∃ y, Steps A k x y ∧ A y z
/-- k steps and no fewer -/
def Dist (A : Nat → Nat → Prop) (x y k : Nat) : Prop := Steps A k x y ∧ ∀ j, j < k → ¬ Steps A j x y
variable {A : Nat → Nat → Prop}
theorem Steps.trans : ∀ {k j x y z : Nat}, Steps A j x y → Steps A k y z → Steps A (j + k) x z
  | 0, j, x, y, z, a, b => by cases b; exact a
  | k + 1, j, x, y, z, a, ⟨u, b, r⟩ => ⟨u, Steps.trans a b, r⟩
theorem Steps.one {x y : Nat} (r : A x y) : Steps A 1 x y := ⟨x, rfl, r⟩
theorem Steps.cons {k x y z : Nat} (r : A x y) (b : Steps A k y z) : Steps A (k + 1) x z := by
  have := Steps.trans (Steps.one r) b
  rwa [Nat.add_comm] at this
theorem Steps.uncons : ∀ {k x z : Nat}, Steps A (k + 1) x z → ∃ y, A x y ∧ Steps A k y z
  | 0, x, z, ⟨y, e, r⟩ => by cases e; exact ⟨z, r, rfl⟩
  | k + 1, x, z, ⟨y, s, r⟩ => let ⟨u, a, b⟩ := Steps.uncons s; ⟨u, a, y, b, r⟩
theorem Steps.symm (sy : ∀ x y, A x y → A y x) : ∀ {k x y : Nat}, Steps A k x y → Steps A k y x
  | 0, _, _, e => Eq.symm e
  | k + 1, x, z, ⟨y, s, r⟩ => Steps.cons (sy _ _ r) (Steps.symm sy s)
theorem Dist.inj {x y k j : Nat} (a : Dist A x y k) (b : Dist A x y j) : k = j := by
  rcases Nat.lt_trichotomy k j with h | h | h
  · exact absurd a.1 (b.2 k h)
  · exact h
  · exact absurd b.1 (a.2 j h)
theorem Steps.dist {x y : Nat} : ∀ {k : Nat}, Steps A k x y → ∃ d, d ≤ k ∧ Dist A x y d := by
  intro k
  induction k using Nat.strongRecOn with
  | _ k ih =>
    intro h
    by_cases c : ∃ j, j < k ∧ Steps A j x y
    · obtain ⟨j, hj, s⟩ := c
      obtain ⟨d, h1, h2⟩ := ih j hj s
      exact ⟨d, by omega, h2⟩
    · exact ⟨k, Nat.le_refl _, h, fun j hj s => c ⟨j, hj, s⟩⟩
theorem Dist.symm (sy : ∀ x y, A x y → A y x) {x y k : Nat} (h : Dist A x y k) : Dist A y x k := ⟨h.1.symm sy, fun j hj s => h.2 j hj (s.symm sy)⟩
theorem Dist.zero {x : Nat} : Dist A x x 0 := ⟨rfl, fun j h => by omega⟩
theorem Dist.zero_iff {x y : Nat} : Dist A x y 0 ↔ x = y := ⟨fun h => h.1, fun h => h ▸ Dist.zero⟩
/-- one step on from a spot k away, not nearer: k + 1 away -/
theorem Dist.next {x y z k : Nat} (h : Dist A x y k) (r : A y z) (no : ∀ j, j ≤ k → ¬ Dist A x z j) : Dist A x z (k + 1) :=
  ⟨⟨y, h.1, r⟩, fun j hj s => let ⟨d, h1, h2⟩ := s.dist; no d (by omega) h2⟩
/-- the spot ahead on a shortest way -/
theorem Dist.pred {x z k : Nat} (h : Dist A x z (k + 1)) : ∃ y, Dist A x y k ∧ A y z := by
  obtain ⟨y, s, r⟩ := h.1
  exact ⟨y, ⟨s, fun j hj s' => h.2 (j + 1) (by omega) ⟨y, s', r⟩⟩, r⟩
theorem Dist.all {x : Nat} : ∀ {k z : Nat}, Dist A x z k → ∀ j, j ≤ k → ∃ y, Dist A x y j
  | 0, z, h, j, hj => ⟨z, by rw [show j = 0 by omega]; exact h⟩
  | k + 1, z, h, j, hj => by
    by_cases c : j = k + 1
    · exact ⟨z, by rw [c]; exact h⟩
    · obtain ⟨y, hy, _⟩ := h.pred
      exact hy.all j (by omega)
theorem Steps.le {n : Nat} (hA : ∀ i j, A i j → j ≤ n) : ∀ {k x y : Nat}, x ≤ n → Steps A k x y → y ≤ n
  | 0, _, _, h, e => by cases e; exact h
  | _ + 1, _, _, _, ⟨_, _, r⟩ => hA _ _ r
/-- a shortest way within the spots 0 .. n has at most n steps -/
theorem Dist.le {n x z k : Nat} (hA : ∀ i j, A i j → j ≤ n) (hx : x ≤ n) (h : Dist A x z k) : k ≤ n := by
  have ex : ∀ m, m ≤ k + 1 → ∃ l : List Int, l.length = m ∧ l.Nodup ∧ ∀ v ∈ l, 0 ≤ v ∧ v ≤ n ∧ ∃ j, j < m ∧ Dist A x v.toNat j := by
    intro m
    induction m with
    | zero => exact fun _ => ⟨[], rfl, .nil, fun v h => by simp at h⟩
    | succ m ih =>
      intro hm
      obtain ⟨l, h1, h2, h3⟩ := ih (by omega)
      obtain ⟨y, hy⟩ := h.all m (by omega)
      have yl : y ≤ n := Steps.le hA hx hy.1
      refine ⟨(y : Int) :: l, by rw [List.length_cons, h1], List.nodup_cons.mpr ⟨fun q => ?_, h2⟩, fun v hv => ?_⟩
      · obtain ⟨_, _, j, hj, d⟩ := h3 _ q
        have := d.inj hy
        omega
      · rcases List.mem_cons.mp hv with rfl | hv
        · exact ⟨by omega, by omega, m, by omega, hy⟩
        · obtain ⟨a, b, j, hj, d⟩ := h3 v hv
          exact ⟨a, b, j, by omega, d⟩
  obtain ⟨l, h1, h2, h3⟩ := ex (k + 1) (Nat.le_refl _)
  have := Mw.nodup_range h2 fun v hv => ⟨(h3 v hv).1, (h3 v hv).2.1⟩
  omega
theorem star_steps {x y : Nat} : Mw.Star A x y ↔ ∃ k, Steps A k x y := by
  constructor
  · intro h
    induction h with
    | refl => exact ⟨0, rfl⟩
    | step _ r ih => let ⟨k, s⟩ := ih; exact ⟨k + 1, _, s, r⟩
  · rintro ⟨k, s⟩
    induction k generalizing y with
    | zero => cases s; exact .refl
    | succ k ih => let ⟨u, s, r⟩ := s; exact .step (ih s) r
theorem star_dist {x y : Nat} : Mw.Star A x y ↔ ∃ k, Dist A x y k := star_steps.trans ⟨fun ⟨_, s⟩ => let ⟨d, _, h⟩ := s.dist; ⟨d, h⟩, fun ⟨k, h⟩ => ⟨k, h.1⟩⟩
/-- the least of the shortest ways from x to n, step by step -/
inductive Gr (A : Nat → Nat → Prop) (n : Nat) : Nat → List Nat → Prop where
  | stop : Gr A n n [n]
  | step {x w d : Nat} {P : List Nat} (hx : Dist A x n (d + 1)) (r : A x w) (hw : Dist A w n d) (least : ∀ v, A x v → Dist A v n d → w ≤ v) (h : Gr A n w P) : Gr A n x (x :: P)
theorem Gr.inj {n : Nat} : ∀ {P P' : List Nat} {x : Nat}, Gr A n x P → Gr A n x P' → P = P' := by
  intro P P' x a
  induction a generalizing P' with
  | stop =>
    intro b
    cases b with
    | stop => rfl
    | step hx _ _ _ _ => have := hx.inj Dist.zero; omega
  | @step x w d P hx r hw least h ih =>
    intro b
    cases b with
    | stop => have := hx.inj Dist.zero; omega
    | @step _ w' d' P' hx' r' hw' least' h' =>
      have e : d = d' := by have := hx.inj hx'; omega
      subst e
      have : w = w' := by
        have := least w' r' hw'
        have := least' w r hw
        omega
      subst this
      rw [ih h']
/-- a least one is there -/
theorem least_of {P : Nat → Prop} {m : Nat} (h : P m) : ∃ w, P w ∧ ∀ v, P v → w ≤ v := by
  induction m using Nat.strongRecOn with
  | _ m ih =>
    by_cases c : ∃ v, v < m ∧ P v
    · obtain ⟨v, l, p⟩ := c
      exact ih v l p
    · exact ⟨m, h, fun v p => by
        rcases Nat.lt_or_ge v m with l | l
        · exact absurd ⟨v, l, p⟩ c
        · exact l⟩
/-! ### the order of ways -/
/-- not after, as tuples of one length are ordered -/
def lle : List Nat → List Nat → Prop
  | [], _ => True
  | _ :: _, [] => False
  | a :: p, b :: q => a < b ∨ (a = b ∧ lle p q)
theorem lle.refl : ∀ p, lle p p
  | [] => trivial
  | a :: p => .inr ⟨rfl, lle.refl p⟩
theorem lle.trans : ∀ {p q r}, lle p q → lle q r → lle p r
  | [], _, _, _, _ => trivial
  | _ :: _, [], _, h, _ => h.elim
  | _ :: _, _ :: _, [], _, h => h.elim
  | a :: p, b :: q, c :: r, h, k => by
    rcases h with h | ⟨rfl, h⟩
    · rcases k with k | ⟨rfl, k⟩
      · exact .inl (by omega)
      · exact .inl h
    · rcases k with k | ⟨rfl, k⟩
      · exact .inl k
      · exact .inr ⟨rfl, lle.trans h k⟩
theorem lle.total : ∀ p q, lle p q ∨ lle q p
  | [], _ => .inl trivial
  | _ :: _, [] => .inr trivial
  | a :: p, b :: q => by
    rcases Nat.lt_trichotomy a b with h | h | h
    · exact .inl (.inl h)
    · rcases lle.total p q with k | k
      · exact .inl (.inr ⟨h, k⟩)
      · exact .inr (.inr ⟨h.symm, k⟩)
    · exact .inr (.inl h)
theorem lle.anti : ∀ {p q}, lle p q → lle q p → p = q
  | [], [], _, _ => rfl
  | [], _ :: _, _, h => h.elim
  | _ :: _, [], h, _ => h.elim
  | a :: p, b :: q, h, k => by
    rcases h with h | ⟨rfl, h⟩
    · rcases k with k | ⟨k, _⟩ <;> omega
    · rcases k with k | ⟨_, k⟩
      · omega
      · rw [lle.anti h k]
theorem lle.snoc {v : Nat} : ∀ {p q : List Nat}, p.length = q.length → lle p q → lle (p ++ [v]) (q ++ [v])
  | [], [], _, _ => .inr ⟨rfl, trivial⟩
  | [], _ :: _, h, _ => by simp at h
  | _ :: _, [], h, _ => by simp at h
  | a :: p, b :: q, h, k => k.elim .inl fun ⟨e, k⟩ => .inr ⟨e, lle.snoc (by simpa using h) k⟩
theorem lle.unpre {q r : List Nat} : ∀ {p : List Nat}, lle (p ++ q) (p ++ r) → lle q r
  | [], h => h
  | a :: p, h => h.elim (fun h => by omega) fun ⟨_, h⟩ => lle.unpre (p := p) h
/-- a way from x to y -/
inductive Way (A : Nat → Nat → Prop) : Nat → Nat → List Nat → Prop where
  | one (x : Nat) : Way A x x [x]
  | cons {x w y : Nat} {P : List Nat} (r : A x w) (h : Way A w y P) : Way A x y (x :: P)
theorem Way.head {x y : Nat} {P : List Nat} (h : Way A x y P) : ∃ t, P = x :: t := by cases h <;> exact ⟨_, rfl⟩
theorem Way.snoc {x y z : Nat} {P : List Nat} (h : Way A x y P) (r : A y z) : Way A x z (P ++ [z]) := by
  induction h with
  | one x => exact .cons r (.one z)
  | cons r' _ ih => exact .cons r' (ih r)
theorem Way.unsnoc {x z : Nat} {P : List Nat} (h : Way A x z P) : P = [x] ∧ x = z ∨ ∃ y P', P = P' ++ [z] ∧ Way A x y P' ∧ A y z := by
  induction h with
  | one x => exact .inl ⟨rfl, rfl⟩
  | @cons x w z P r h ih =>
    rcases ih with ⟨rfl, rfl⟩ | ⟨y, P', rfl, h', r'⟩
    · exact .inr ⟨x, [x], rfl, .one x, r⟩
    · exact .inr ⟨y, x :: P', rfl, .cons r h', r'⟩
theorem Way.steps {x y : Nat} {P : List Nat} (h : Way A x y P) : ∃ k, P.length = k + 1 ∧ Steps A k x y := by
  induction h with
  | one x => exact ⟨0, rfl, rfl⟩
  | cons r _ ih => obtain ⟨k, e, s⟩ := ih; exact ⟨k + 1, by rw [List.length_cons, e], Steps.cons r s⟩
theorem Steps.way : ∀ {k x y : Nat}, Steps A k x y → ∃ P, Way A x y P ∧ P.length = k + 1
  | 0, x, y, e => by cases e; exact ⟨[x], .one x, rfl⟩
  | k + 1, x, z, ⟨y, s, r⟩ => let ⟨P, w, l⟩ := Steps.way s; ⟨P ++ [z], w.snoc r, by rw [List.length_append, l]; rfl⟩
/-- the least of the shortest ways -/
structure Best (A : Nat → Nat → Prop) (x y d : Nat) (P : List Nat) : Prop where
  way : Way A x y P
  ln : P.length = d + 1
  least : ∀ P', Way A x y P' → P'.length = d + 1 → lle P P'
theorem Best.tail {n x w d : Nat} {P : List Nat} (h : Best A x n (d + 1) (x :: P)) (r : A x w) (hw : Way A w n P) : Best A w n d P :=
  ⟨hw, by simpa using h.ln, fun P' h1 h2 => (h.least (x :: P') (.cons r h1) (by rw [List.length_cons, h2])).elim (fun q => by omega) fun q => q.2⟩
/-- .. is found step by step -/
theorem Best.gr {n : Nat} : ∀ {P : List Nat} {x d : Nat}, Dist A x n d → Best A x n d P → Gr A n x P
  | [], x, d, _, h => by have := h.ln; simp at this
  | [a], x, d, hd, h => by
    have l := h.ln
    have hw := h.way
    cases hw with
    | one => exact .stop
    | cons _ q => cases q
  | a :: b :: P, x, d, hd, h => by
    have l := h.ln
    have hw := h.way
    cases hw with
    | @cons _ w _ _ r q =>
      obtain ⟨t, e⟩ := q.head
      cases e
      obtain ⟨k, e1, s⟩ := q.steps
      cases d with
      | zero => simp at l
      | succ d =>
        have ek : k = d := by
          simp only [List.length_cons] at l e1
          omega
        subst ek
        have dw : Dist A b n k := ⟨s, fun j hj s' => hd.2 (j + 1) (by omega) (Steps.cons r s')⟩
        refine .step hd r dw (fun v rv dv => ?_) (Best.gr dw (h.tail r q))
        obtain ⟨P', w', l'⟩ := dv.1.way
        obtain ⟨t', e'⟩ := w'.head
        subst e'
        rcases h.least (a :: v :: t') (.cons rv w') (by rw [List.length_cons, l']) with z | ⟨_, z⟩
        · omega
        · rcases z with z | ⟨z, _⟩ <;> omega
/-- one step on: the least over the spots ahead -/
theorem Best.next {x z d : Nat} {P : List Nat} {y : Nat} (hP : Best A x y d P) (r : A y z)
    (least : ∀ y' P', Best A x y' d P' → A y' z → lle (P ++ [z]) (P' ++ [z])) (ex : ∀ y', Steps A d x y' → A y' z → ∃ P', Best A x y' d P') : Best A x z (d + 1) (P ++ [z]) := by
  refine ⟨hP.way.snoc r, by rw [List.length_append, hP.ln]; rfl, fun P' h1 h2 => ?_⟩
  rcases h1.unsnoc with ⟨rfl, rfl⟩ | ⟨y', Q, rfl, hq, r'⟩
  · simp at h2
  · obtain ⟨k, e, s⟩ := hq.steps
    rw [List.length_append, e] at h2
    have ek : k = d := by simp at h2; omega
    subst ek
    obtain ⟨P2, b2⟩ := ex y' s r'
    exact (least y' P2 b2 r').trans (lle.snoc (by rw [b2.ln, e]) (b2.least Q hq e))
end Mz

/-! Plain law: the classes of spots that lead to one another. -/
namespace Mc
open PySem PySem.Spec PyProof.Rows L2
open Classical
variable {A : Nat → Nat → Prop}
/-- ascending lists with the same members are the same -/
theorem lt_ext {α : Type} {R : α → α → Prop} (irr : ∀ x, ¬ R x x) (tr : ∀ x y z, R x y → R y z → R x z) : ∀ {l m : List α}, l.Pairwise R → m.Pairwise R → (∀ x, x ∈ l ↔ x ∈ m) → l = m
  | [], [], _, _, _ => rfl
  | [], y :: m, _, _, h => absurd ((h y).mpr (List.mem_cons_self ..)) (by simp)
  | x :: l, [], _, _, h => absurd ((h x).mp (List.mem_cons_self ..)) (by simp)
  | x :: l, y :: m, hl, hm, h => by
    obtain ⟨hx, hl2⟩ := List.pairwise_cons.mp hl
    obtain ⟨hy, hm2⟩ := List.pairwise_cons.mp hm
    have e : x = y := by
      rcases List.mem_cons.mp ((h x).mp (List.mem_cons_self ..)) with e | q
      · exact e
      · rcases List.mem_cons.mp ((h y).mpr (List.mem_cons_self ..)) with e | q2
        · exact e.symm
        · exact absurd (tr _ _ _ (hx y q2) (hy x q)) (irr x)
    subst e
    refine congrArg (x :: ·) (lt_ext irr tr hl2 hm2 fun z => ?_)
    constructor
    · intro q
      rcases List.mem_cons.mp ((h z).mp (List.mem_cons_of_mem _ q)) with e | r
      · rw [e] at q
        exact absurd (hx _ q) (irr _)
      · exact r
    · intro q
      rcases List.mem_cons.mp ((h z).mpr (List.mem_cons_of_mem _ q)) with e | r
      · rw [e] at q
        exact absurd (hy _ q) (irr _)
      · exact r
theorem int_ext {l m : List Int} (hl : l.Pairwise (· < ·)) (hm : m.Pairwise (· < ·)) (h : ∀ x, x ∈ l ↔ x ∈ m) : l = m := lt_ext (R := fun a b : Int => a < b) (fun x => by omega) (fun x y z h k => by omega) hl hm h
theorem star_le {n : Nat} (hA : ∀ i j, A i j → j ≤ n) {x y : Nat} (hx : x ≤ n) (h : Mw.Star A x y) : y ≤ n := by
  cases h with
  | refl => exact hx
  | step _ a => exact hA _ _ a
/-- the class of a spot, ascending -/
noncomputable def cls (A : Nat → Nat → Prop) (n s : Nat) : List Nat := (List.range (n + 1)).filter fun i => decide (Mw.Star A s i)
theorem mem_cls {n s i : Nat} : i ∈ cls A n s ↔ i ≤ n ∧ Mw.Star A s i := by
  unfold cls
  rw [List.mem_filter, List.mem_range, decide_eq_true_iff]
  constructor <;> exact fun ⟨a, b⟩ => ⟨by omega, b⟩
theorem cls_len (n s : Nat) : (cls A n s).length ≤ n + 1 := by
  have := List.length_filter_le (fun i => decide (Mw.Star A s i)) (List.range (n + 1))
  rwa [List.length_range] at this
theorem range_lt (n : Nat) : (List.range n).Pairwise (· < ·) := List.pairwise_lt_range
theorem cls_lt (n s : Nat) : ((cls A n s).map fun i : Nat => (i : Int)).Pairwise (· < ·) := by
  rw [List.pairwise_map]
  exact ((range_lt (n + 1)).sublist List.filter_sublist).imp fun h => by omega
/-- first of its class -/
def Rep (A : Nat → Nat → Prop) (s : Nat) : Prop := ∀ r, r < s → ¬ Mw.Star A r s
noncomputable def classesTo (A : Nat → Nat → Prop) (n i : Nat) : List (List Nat) := ((List.range i).filter fun s => decide (Rep A s)).map (cls A n)
theorem classesTo_succ (n i : Nat) : classesTo A n (i + 1) = classesTo A n i ++ if Rep A i then [cls A n i] else [] := by
  unfold classesTo
  rw [List.range_succ, List.filter_append, List.map_append]
  congr 1
  by_cases h : Rep A i
  · rw [if_pos h]; simp [h]
  · rw [if_neg h]; simp [h]
theorem classesTo_len (n i : Nat) : (classesTo A n i).length ≤ i := by
  unfold classesTo
  rw [List.length_map]
  have := List.length_filter_le (fun s => decide (Rep A s)) (List.range i)
  rwa [List.length_range] at this
theorem mem_classesTo {n i : Nat} {c : List Nat} : c ∈ classesTo A n i ↔ ∃ s, s < i ∧ Rep A s ∧ c = cls A n s := by
  unfold classesTo
  rw [List.mem_map]
  constructor
  · rintro ⟨s, h, rfl⟩
    rw [List.mem_filter, List.mem_range, decide_eq_true_iff] at h
    exact ⟨s, h.1, h.2, rfl⟩
  · rintro ⟨s, h1, h2, rfl⟩
    exact ⟨s, by rw [List.mem_filter, List.mem_range, decide_eq_true_iff]; exact ⟨h1, h2⟩, rfl⟩
theorem rep_below (sy : ∀ i j, A i j → A j i) {r i : Nat} (h : Mw.Star A r i) : ∃ s, s ≤ r ∧ Rep A s ∧ Mw.Star A s i := by
  induction r using Nat.strongRecOn with
  | _ r ih =>
    by_cases c : Rep A r
    · exact ⟨r, Nat.le_refl _, c, h⟩
    · have : ∃ q, q < r ∧ Mw.Star A q r := by
        false_or_by_contra
        rename_i no
        exact c fun q hq sq => no ⟨q, hq, sq⟩
      obtain ⟨q, hq, sq⟩ := this
      obtain ⟨s, h1, h2, h3⟩ := ih q hq (sq.trans h)
      exact ⟨s, by omega, h2, h3⟩
theorem rep_iff (sy : ∀ i j, A i j → A j i) {n i : Nat} (hi : i ≤ n) : Rep A i ↔ ∀ c ∈ classesTo A n i, i ∉ c := by
  constructor
  · intro h c hc m
    obtain ⟨s, h1, _, rfl⟩ := mem_classesTo.mp hc
    exact h s h1 (mem_cls.mp m).2
  · intro h r hr sr
    obtain ⟨s, h1, h2, h3⟩ := rep_below sy sr
    exact h _ (mem_classesTo.mpr ⟨s, by omega, h2, rfl⟩) (mem_cls.mpr ⟨hi, h3⟩)
theorem rep_zero : Rep A 0 := fun r h => by omega
theorem classes_head (n i : Nat) : ∃ r, classesTo A n (i + 1) = cls A n 0 :: r := by
  unfold classesTo
  rw [List.range_succ_eq_map, List.filter_cons, if_pos (by simpa using rep_zero), List.map_cons]
  exact ⟨_, rfl⟩
end Mc

/-! Plain law: ways with the fewest turns and, of these, the fewest steps. -/
namespace Mk
variable {A : Nat → Nat → Prop} {n : Nat}
/-- one turn if the direction changes -/
def tn (u d : Bool) : Nat := if d = u then 0 else 1
/-- a way from s, to which one comes in direction u, to n: its turns, its steps -/
inductive Cw (A : Nat → Nat → Prop) (n : Nat) : Nat → Bool → Nat → Nat → Prop where
  | stop (u : Bool) : Cw A n n u 0 0
  | step {s o t k : Nat} {u : Bool} (ne : s ≠ n) (a : A s o) (h : Cw A n o (decide (s < o)) t k) : Cw A n s u (t + tn u (decide (s < o))) (k + 1)
/-- not more: turns first, then steps -/
def lx (p q : Nat × Nat) : Prop := p.1 < q.1 ∨ (p.1 = q.1 ∧ p.2 ≤ q.2)
theorem lx.refl (p : Nat × Nat) : lx p p := .inr ⟨rfl, Nat.le_refl _⟩
theorem lx.trans {p q r : Nat × Nat} (h : lx p q) (k : lx q r) : lx p r := by unfold lx at *; omega
theorem lx.anti {p q : Nat × Nat} (h : lx p q) (k : lx q p) : p = q := by
  unfold lx at *
  exact Prod.ext (by omega) (by omega)
theorem lx.total (p q : Nat × Nat) : lx p q ∨ lx q p := by unfold lx; omega
theorem lx_zero (p : Nat × Nat) : lx (0, 0) p := by unfold lx; simp; omega
/-- the step ahead -/
def add (u d : Bool) (p : Nat × Nat) : Nat × Nat := (p.1 + tn u d, p.2 + 1)
theorem lx_add {u d : Bool} {p q : Nat × Nat} : lx (add u d p) (add u d q) ↔ lx p q := by
  unfold lx add
  simp only
  omega
def Least (A : Nat → Nat → Prop) (n s : Nat) (u : Bool) (p : Nat × Nat) : Prop := Cw A n s u p.1 p.2 ∧ ∀ t k, Cw A n s u t k → lx p (t, k)
theorem Least.inj {s : Nat} {u : Bool} {p q : Nat × Nat} (h : Least A n s u p) (k : Least A n s u q) : p = q := (h.2 _ _ k.1).anti (k.2 _ _ h.1)
theorem least_ex {s t k : Nat} {u : Bool} (h : Cw A n s u t k) : ∃ p, Least A n s u p := by
  obtain ⟨t0, ⟨k1, h1⟩, m1⟩ := Mz.least_of (P := fun t => ∃ k, Cw A n s u t k) ⟨k, h⟩
  obtain ⟨k0, h0, m0⟩ := Mz.least_of (P := fun k => Cw A n s u t0 k) h1
  refine ⟨(t0, k0), h0, fun t' k' h' => ?_⟩
  have a := m1 t' ⟨k', h'⟩
  rcases Nat.lt_or_ge t0 t' with c | c
  · exact .inl c
  · have e : t' = t0 := by omega
    subst e
    exact .inr ⟨rfl, m0 k' h'⟩
theorem cw_n {u : Bool} {t k : Nat} (h : Cw A n n u t k) : t = 0 ∧ k = 0 := by
  cases h with
  | stop => exact ⟨rfl, rfl⟩
  | step ne => exact absurd rfl ne
/-- the step on, and what is left -/
theorem Cw.next {s t k : Nat} {u : Bool} (h : Cw A n s u t k) (ne : s ≠ n) : ∃ o q, A s o ∧ Cw A n o (decide (s < o)) q.1 q.2 ∧ (t, k) = add u (decide (s < o)) q := by
  cases h with
  | stop => exact absurd rfl ne
  | @step _ o t k _ _ a h => exact ⟨o, (t, k), a, h, rfl⟩
theorem Least.next {s : Nat} {u : Bool} {p : Nat × Nat} (h : Least A n s u p) (ne : s ≠ n) : ∃ o q, A s o ∧ Least A n o (decide (s < o)) q ∧ p = add u (decide (s < o)) q := by
  obtain ⟨o, q, a, c, e⟩ := h.1.next ne
  have e' : p = add u (decide (s < o)) q := e
  refine ⟨o, q, a, ⟨c, fun t k c' => ?_⟩, e'⟩
  have := h.2 _ _ (Cw.step ne a c')
  rw [e'] at this
  exact lx_add.mp this
def code (s : Nat) (u : Bool) : Int := 2 * s + (if u then 1 else 0)
theorem code_inj {s s' : Nat} {u u' : Bool} (h : code s u = code s' u') : s = s' ∧ u = u' := by
  unfold code at h
  cases u <;> cases u' <;> simp at h ⊢ <;> omega
/-- a least way has few steps -/
theorem Least.le (hA : ∀ i j, A i j → j ≤ n) {s : Nat} {u : Bool} {p : Nat × Nat} (h : Least A n s u p) (sn : s ≤ n) : p.2 ≤ 2 * n + 1 := by
  have ex : ∀ m, ∀ s u (p : Nat × Nat), p.2 = m → s ≤ n → Least A n s u p → ∃ l : List Int, l.length = m + 1 ∧ l.Nodup ∧ ∀ v ∈ l, 0 ≤ v ∧ v ≤ ((2 * n + 1 : Nat) : Int) ∧ ∃ x b q, v = code x b ∧ Least A n x b q ∧ q.2 ≤ m := by
    intro m
    induction m with
    | zero =>
      intro s u p e sn h
      refine ⟨[code s u], rfl, by simp, fun v hv => ?_⟩
      rw [List.mem_singleton.mp hv]
      refine ⟨by unfold code; split <;> omega, by unfold code; split <;> omega, s, u, p, rfl, h, by omega⟩
    | succ m ih =>
      intro s u p e sn h
      have ne : s ≠ n := fun c => by
        subst c
        have := cw_n h.1
        omega
      obtain ⟨o, q, a, hq, ep⟩ := h.next ne
      have eq : q.2 = m := by
        rw [ep] at e
        unfold add at e
        simp only at e
        omega
      obtain ⟨l, h1, h2, h3⟩ := ih o _ q eq (hA _ _ a) hq
      refine ⟨code s u :: l, by rw [List.length_cons, h1], List.nodup_cons.mpr ⟨fun c => ?_, h2⟩, fun v hv => ?_⟩
      · obtain ⟨_, _, x, b, q', e1, e2, e3⟩ := h3 _ c
        obtain ⟨rfl, rfl⟩ := code_inj e1
        have := h.inj e2
        rw [this] at e
        omega
      · rcases List.mem_cons.mp hv with rfl | hv
        · exact ⟨by unfold code; split <;> omega, by unfold code; split <;> omega, s, u, p, rfl, h, by omega⟩
        · obtain ⟨h1, h2, x, b, q', e1, e2, e3⟩ := h3 v hv
          exact ⟨h1, h2, x, b, q', e1, e2, by omega⟩
  obtain ⟨l, h1, h2, h3⟩ := ex p.2 s u p rfl sn h
  have := Mw.nodup_range h2 fun v hv => ⟨(h3 v hv).1, (h3 v hv).2.1⟩
  omega
/-! ### what is known of the costs -/
abbrev Tab := Nat → Bool → Option (Nat × Nat)
def Sound (A : Nat → Nat → Prop) (n : Nat) (F : Tab) : Prop := ∀ s u p, s ≤ n → F s u = some p → Cw A n s u p.1 p.2
/-- all ways of at most r steps from s are covered -/
def Cov (A : Nat → Nat → Prop) (n : Nat) (F : Tab) (r s : Nat) (u : Bool) : Prop := ∀ t k, Cw A n s u t k → k ≤ r → ∃ p, F s u = some p ∧ lx p (t, k)
def Fall (F G : Tab) : Prop := ∀ s u p, F s u = some p → ∃ q, G s u = some q ∧ lx q p
theorem Fall.refl (F : Tab) : Fall F F := fun s u p h => ⟨p, h, lx.refl p⟩
theorem Fall.trans {F G H : Tab} (h : Fall F G) (k : Fall G H) : Fall F H := fun s u p e => by
  obtain ⟨q, e1, l1⟩ := h s u p e
  obtain ⟨r, e2, l2⟩ := k s u q e1
  exact ⟨r, e2, l2.trans l1⟩
theorem Cov.fall {F G : Tab} {r s : Nat} {u : Bool} (h : Cov A n F r s u) (f : Fall F G) : Cov A n G r s u := fun t k c l => by
  obtain ⟨p, e, lp⟩ := h t k c l
  obtain ⟨q, e2, lq⟩ := f s u p e
  exact ⟨q, e2, lq.trans lp⟩
/-- not below any step on -/
def Stab (A : Nat → Nat → Prop) (F : Tab) (s : Nat) (u : Bool) : Prop := ∀ o q, A s o → F o (decide (s < o)) = some q → ∃ p, F s u = some p ∧ lx p (add u (decide (s < o)) q)
/-- all is found -/
def Opt (A : Nat → Nat → Prop) (n : Nat) (F : Tab) : Prop := ∀ s u p, s ≤ n → (F s u = some p ↔ Least A n s u p)
theorem opt_of {F : Tab} (so : Sound A n F) (cov : ∀ s u, s ≤ n → ∀ t k, Cw A n s u t k → ∃ p, F s u = some p ∧ lx p (t, k)) : Opt A n F := fun s u p sn => by
  constructor
  · intro e
    refine ⟨so s u p sn e, fun t k c => ?_⟩
    obtain ⟨q, e2, l⟩ := cov s u sn t k c
    rw [e] at e2
    cases e2
    exact l
  · intro h
    obtain ⟨q, e2, l⟩ := cov s u sn _ _ h.1
    rw [e2, l.anti (h.2 _ _ (so s u q sn e2))]
theorem opt_stab (hA : ∀ i j, A i j → j ≤ n) {F : Tab} (so : Sound A n F) (z : ∀ u, F n u = some (0, 0)) (st : ∀ s u, s < n → Stab A F s u) : Opt A n F := by
  refine opt_of so fun s u sn t k c => ?_
  induction c with
  | stop u => exact ⟨(0, 0), z u, lx.refl _⟩
  | @step s o t k u ne a h ih =>
    obtain ⟨q, e, l⟩ := ih (hA _ _ a)
    obtain ⟨p, e2, l2⟩ := st s u (by omega) o q a e
    exact ⟨p, e2, l2.trans (lx_add.mpr l)⟩
theorem opt_cov (hA : ∀ i j, A i j → j ≤ n) {F : Tab} (so : Sound A n F) {r : Nat} (hr : 2 * n + 2 ≤ r) (cv : ∀ s u, s ≤ n → Cov A n F r s u) : Opt A n F := by
  refine opt_of so fun s u sn t k c => ?_
  obtain ⟨p, hp⟩ := least_ex c
  obtain ⟨q, e, l⟩ := cv s u sn _ _ hp.1 (by have := hp.le hA sn; omega)
  exact ⟨q, e, l.trans (hp.2 _ _ c)⟩
/-- covered by all steps on -/
theorem cov_next {F0 F : Tab} {r s : Nat} {u : Bool} {b : Option (Nat × Nat)} (hA : ∀ i j, A i j → j ≤ n) (sn : s < n) (cv : ∀ s u, s ≤ n → Cov A n F0 r s u) (f : Fall F0 F)
    (hb : ∀ o q, A s o → F o (decide (s < o)) = some q → ∃ p, b = some p ∧ lx p (add u (decide (s < o)) q)) : ∀ t k, Cw A n s u t k → k ≤ r + 1 → ∃ p, b = some p ∧ lx p (t, k) := fun t k c l => by
  obtain ⟨o, q, a, cq, e⟩ := c.next (by omega)
  have : q.2 ≤ r := by
    have := congrArg Prod.snd e
    unfold add at this
    simp only at this
    omega
  obtain ⟨p0, e0, l0⟩ := cv o _ (hA _ _ a) _ _ cq this
  obtain ⟨p1, e1, l1⟩ := f _ _ _ e0
  obtain ⟨p, ep, lp⟩ := hb o p1 a e1
  refine ⟨p, ep, ?_⟩
  rw [e]
  exact lp.trans (lx_add.mpr (l1.trans l0))
def put (F : Tab) (s : Nat) (u : Bool) (b : Option (Nat × Nat)) : Tab := fun s' u' => if s' = s ∧ u' = u then b else F s' u'
theorem put_same {F : Tab} {s : Nat} {u : Bool} {b : Option (Nat × Nat)} : put F s u b s u = b := if_pos ⟨rfl, rfl⟩
theorem put_ne {F : Tab} {s s' : Nat} {u u' : Bool} {b : Option (Nat × Nat)} (h : ¬ (s' = s ∧ u' = u)) : put F s u b s' u' = F s' u' := if_neg h
theorem put_self {F : Tab} {s : Nat} {u : Bool} : put F s u (F s u) = F := by
  funext s' u'
  by_cases h : s' = s ∧ u' = u
  · obtain ⟨rfl, rfl⟩ := h
    exact put_same
  · exact put_ne h
theorem put_fall {F : Tab} {s : Nat} {u : Bool} {b : Option (Nat × Nat)} (h : ∀ p, F s u = some p → ∃ q, b = some q ∧ lx q p) : Fall F (put F s u b) := fun s' u' p e => by
  by_cases c : s' = s ∧ u' = u
  · obtain ⟨rfl, rfl⟩ := c
    obtain ⟨q, e1, l⟩ := h p e
    exact ⟨q, by rw [put_same]; exact e1, l⟩
  · exact ⟨p, by rw [put_ne c]; exact e, lx.refl p⟩
/-! ### the least way, found step by step -/
inductive Gc (A : Nat → Nat → Prop) (n : Nat) : Nat → Bool → List Nat → Prop where
  | stop (u : Bool) : Gc A n n u [n]
  | step {s o : Nat} {u : Bool} {p q : Nat × Nat} {P : List Nat} (ne : s ≠ n) (hs : Least A n s u p) (a : A s o) (ho : Least A n o (decide (s < o)) q) (e : p = add u (decide (s < o)) q)
      (least : ∀ v q', A s v → Least A n v (decide (s < v)) q' → p = add u (decide (s < v)) q' → o ≤ v) (h : Gc A n o (decide (s < o)) P) : Gc A n s u (s :: P)
theorem Gc.inj : ∀ {P P' : List Nat} {s : Nat} {u : Bool}, Gc A n s u P → Gc A n s u P' → P = P' := by
  intro P P' s u a
  induction a generalizing P' with
  | stop u =>
    intro b
    cases b with
    | stop => rfl
    | step ne => exact absurd rfl ne
  | @step s o u p q P ne hs a ho e least h ih =>
    intro b
    cases b with
    | stop => exact absurd rfl ne
    | @step _ o' _ p' q' P' ne' hs' a' ho' e' least' h' =>
      have ep := hs.inj hs'
      subst ep
      have : o = o' := by
        have := least o' q' a' ho' e'
        have := least' o q a ho e
        omega
      subst this
      rw [ih h']
/-- turns of a row, coming in direction u -/
def turns : Bool → List Nat → Nat
  | u, x :: y :: r => tn u (decide (x < y)) + turns (decide (x < y)) (y :: r)
  | _, _ => 0
theorem Gc.cost {s : Nat} {u : Bool} {P : List Nat} (h : Gc A n s u P) : ∃ p, Least A n s u p ∧ turns u P = p.1 ∧ P.length = p.2 + 1 := by
  induction h with
  | stop u => exact ⟨(0, 0), ⟨.stop u, fun t k _ => lx_zero _⟩, rfl, rfl⟩
  | @step s o u p q P ne hs a ho e least h ih =>
    obtain ⟨q', hq, t1, l1⟩ := ih
    have := ho.inj hq
    subst this
    refine ⟨p, hs, ?_, ?_⟩
    · obtain ⟨r, hr⟩ : ∃ r, P = o :: r := by cases h <;> exact ⟨_, rfl⟩
      subst hr
      show tn u (decide (s < o)) + turns (decide (s < o)) (o :: r) = p.1
      rw [t1, e]
      unfold add
      simp only
      omega
    · rw [List.length_cons, l1, e]
      rfl
theorem Gc.head {s : Nat} {u : Bool} {P : List Nat} (h : Gc A n s u P) : ∃ r, P = s :: r := by cases h <;> exact ⟨_, rfl⟩
/-- there is a way just if there is one at all -/
theorem cw_star {s : Nat} {u : Bool} : (∃ t k, Cw A n s u t k) ↔ Mw.Star A s n := by
  constructor
  · rintro ⟨t, k, h⟩
    induction h with
    | stop => exact .refl
    | step _ a _ ih => exact (Mw.Star.one a).trans ih
  · intro h
    have key : ∀ {x y : Nat}, Mw.Star A x y → (∃ u t k, Cw A n y u t k) → (∀ u, ∃ t k, Cw A n y u t k) → ∀ u, ∃ t k, Cw A n x u t k := by
      intro x y st
      induction st with
      | refl => exact fun _ h => h
      | @step y z st a ih =>
        intro _ hz
        have : ∀ u, ∃ t k, Cw A n y u t k := fun u => by
          by_cases c : y = n
          · subst c; exact ⟨0, 0, .stop u⟩
          · obtain ⟨t, k, w⟩ := hz (decide (y < z))
            exact ⟨_, _, .step c a w⟩
        obtain ⟨t, k, w⟩ := this true
        exact ih ⟨true, t, k, w⟩ this
    exact key h ⟨true, 0, 0, .stop true⟩ (fun u => ⟨0, 0, .stop u⟩) u
end Mk

/-! Plain law: spots read from the end, letters exchanged, words joined. -/
namespace Mt
open PySem PySem.Spec PyProof.Rows L2
open Classical
theorem str_ext {a b : Str} (h : a.cps.toList = b.cps.toList) : a = b := by
  obtain ⟨⟨x⟩⟩ := a
  obtain ⟨⟨y⟩⟩ := b
  cases (show x = y from h)
  rfl
variable {A B : Nat → Nat → Prop} {n : Nat}
/-- B is A read from the end -/
structure Mir (A B : Nat → Nat → Prop) (n : Nat) : Prop where
  la : ∀ i j, A i j → i ≤ n ∧ j ≤ n
  lb : ∀ i j, B i j → i ≤ n ∧ j ≤ n
  iff : ∀ i j, i ≤ n → j ≤ n → (B i j ↔ A (n - i) (n - j))
  sa : ∀ i j, A i j → A j i
  ne : ∀ i j, A i j → i ≠ j
theorem Mir.to (m : Mir A B n) {i j : Nat} (h : A i j) : B (n - i) (n - j) := by
  have ⟨a, b⟩ := m.la _ _ h
  refine (m.iff _ _ (Nat.sub_le _ _) (Nat.sub_le _ _)).mpr ?_
  rw [Nat.sub_sub_self a, Nat.sub_sub_self b]
  exact h
theorem Mir.symm (m : Mir A B n) : Mir B A n where
  la := m.lb
  lb := m.la
  iff i j hi hj := by
    rw [m.iff _ _ (Nat.sub_le _ _) (Nat.sub_le _ _), Nat.sub_sub_self hi, Nat.sub_sub_self hj]
  sa i j h := by
    have ⟨a, b⟩ := m.lb _ _ h
    exact (m.iff _ _ b a).mpr (m.sa _ _ ((m.iff _ _ a b).mp h))
  ne i j h := by
    have ⟨a, b⟩ := m.lb _ _ h
    intro e
    exact m.ne _ _ ((m.iff _ _ a b).mp h) (by rw [e])
/-! ### ways, from both ends -/
inductive Wy (A : Nat → Nat → Prop) : Nat → Bool → Nat → Nat → Nat → Bool → Prop
  | nil (s : Nat) (u : Bool) : Wy A s u 0 0 s u
  | cons {s o t k e : Nat} {u d : Bool} (a : A s o) (h : Wy A o (decide (s < o)) t k e d) : Wy A s u (t + Mk.tn u (decide (s < o))) (k + 1) e d
theorem Wy.snoc {s t k e f : Nat} {u d : Bool} (h : Wy A s u t k e d) (a : A e f) : Wy A s u (t + Mk.tn d (decide (e < f))) (k + 1) f (decide (e < f)) := by
  induction h with
  | nil s u => exact Wy.cons a (.nil _ _)
  | @cons s o t k e u d a' _ ih =>
    have := Wy.cons (A := A) (u := u) a' (ih a)
    rw [Nat.add_right_comm] at this
    exact this
theorem tn_comm (a b : Bool) : Mk.tn a b = Mk.tn b a := by cases a <;> cases b <;> rfl
theorem tn_self (a : Bool) : Mk.tn a a = 0 := by cases a <;> rfl
theorem wy_of (hA : ∀ i j, A i j → i ≤ n ∧ j ≤ n) (ne : ∀ i j, A i j → i ≠ j) {s t k : Nat} {u : Bool} (h : Mk.Cw A n s u t k) : ∃ d, Wy A s u t k n d ∧ (s ≠ n → d = true) := by
  induction h with
  | stop u => exact ⟨u, .nil _ _, fun c => absurd rfl c⟩
  | @step s o t k u c a h ih =>
    obtain ⟨d, w, e⟩ := ih
    by_cases q : o = n
    · subst q
      obtain ⟨rfl, rfl⟩ := Mk.cw_n h
      refine ⟨decide (s < o), .cons a (.nil _ _), fun _ => ?_⟩
      have := (hA _ _ a).1
      exact decide_eq_true (by omega)
    · exact ⟨d, .cons a w, fun _ => e q⟩
theorem wy_cw {s t k : Nat} {u d : Bool} (h : Wy A s u t k n d) : ∃ t' k', Mk.Cw A n s u t' k' ∧ Mk.lx (t', k') (t, k) := by
  generalize en : n = e at h
  induction h with
  | nil s u => subst en; exact ⟨0, 0, .stop _, Mk.lx.refl _⟩
  | @cons s o t k e u d a h ih =>
    subst en
    obtain ⟨t', k', c, l⟩ := ih rfl
    by_cases q : s = n
    · subst q
      exact ⟨0, 0, .stop _, Mk.lx_zero _⟩
    · exact ⟨_, _, .step q a c, Mk.lx_add (p := (t', k')) (q := (t, k)) |>.mpr l⟩
theorem Mir.wy (m : Mir A B n) {s t k e : Nat} {u d : Bool} (h : Wy A s u t k e d) (c : k ≠ 0) : ∃ o t', A s o ∧ t = t' + Mk.tn u (decide (s < o)) ∧ Wy B (n - e) d t' k (n - s) (decide (s < o)) := by
  induction h with
  | nil => exact absurd rfl c
  | @cons s o t k e u d a h ih =>
    have ⟨sn, on⟩ := m.la _ _ a
    have b : B (n - o) (n - s) := m.to (m.sa _ _ a)
    have dir : decide (n - o < n - s) = decide (s < o) := decide_eq_decide.mpr (by omega)
    refine ⟨o, t, a, rfl, ?_⟩
    cases k with
    | zero =>
      cases h
      have w := Wy.cons (u := decide (s < o)) b (.nil _ _)
      rw [dir, tn_self] at w
      exact w
    | succ k =>
      obtain ⟨o2, t2, a2, e2, w2⟩ := ih (by omega)
      have w := w2.snoc b
      rw [dir, tn_comm] at w
      rw [e2]
      exact w
theorem Mir.cw (m : Mir A B n) (n0 : n ≠ 0) {t k : Nat} (h : Mk.Cw A n 0 true t k) : ∃ t' k', Mk.Cw B n 0 true t' k' ∧ Mk.lx (t', k') (t, k) := by
  obtain ⟨d, w, e⟩ := wy_of m.la m.ne h
  have hd := e (by omega)
  subst hd
  have k0 : k ≠ 0 := by
    cases h with
    | stop => exact absurd rfl n0
    | step => omega
  obtain ⟨o, t', a, e, w'⟩ := m.wy w k0
  have o0 : 0 < o := by have := m.ne _ _ a; omega
  rw [decide_eq_true o0, tn_self, Nat.add_zero] at e
  subst e
  rw [Nat.sub_self, Nat.sub_zero] at w'
  exact wy_cw w'
theorem Mir.least (m : Mir A B n) (n0 : n ≠ 0) {p : Nat × Nat} (h : Mk.Least A n 0 true p) : Mk.Least B n 0 true p := by
  obtain ⟨t, k, c, l⟩ := m.cw n0 h.1
  obtain ⟨q, hq⟩ := Mk.least_ex c
  obtain ⟨t2, k2, c2, l2⟩ := m.symm.cw n0 hq.1
  have e : p = q := (Mk.lx.trans (h.2 _ _ c2) l2).anti (Mk.lx.trans (hq.2 _ _ c) l)
  rw [e]
  exact hq
theorem Mir.star (m : Mir A B n) {i j : Nat} (h : Mw.Star A i j) : Mw.Star B (n - i) (n - j) := by
  induction h with
  | refl => exact .refl
  | step _ a ih => exact .step ih (m.to a)
theorem Mir.told (m : Mir A B n) : Mw.Star A 0 n ↔ Mw.Star B 0 n := by
  have one : ∀ {A B}, Mir A B n → Mw.Star A 0 n → Mw.Star B 0 n := fun {A B} m h => by
    have := (m.star h).symm m.symm.sa
    rw [Nat.sub_self, Nat.sub_zero] at this
    exact this
  exact ⟨one m, one m.symm⟩
theorem Mir.steps (m : Mir A B n) : ∀ {k x y : Nat}, Mz.Steps A k x y → Mz.Steps B k (n - x) (n - y)
  | 0, x, y, e => by cases e; rfl
  | k + 1, x, z, ⟨y, s, a⟩ => ⟨n - y, m.steps s, m.to a⟩
theorem Mir.ends (m : Mir A B n) {k : Nat} (h : Mz.Steps A k 0 n) : Mz.Steps B k 0 n := by
  have := (m.steps h).symm m.symm.sa
  rw [Nat.sub_self, Nat.sub_zero] at this
  exact this
theorem Mir.dist (m : Mir A B n) {k : Nat} (h : Mz.Dist A 0 n k) : Mz.Dist B 0 n k := ⟨m.ends h.1, fun j hj s => h.2 j hj (m.symm.ends s)⟩
theorem gr_len {x : Nat} {P : List Nat} (h : Mz.Gr A n x P) : ∃ d, Mz.Dist A x n d ∧ P.length = d + 1 := by
  induction h with
  | stop => exact ⟨0, Mz.Dist.zero, rfl⟩
  | step hx _ hw _ _ ih =>
    obtain ⟨d', h', l⟩ := ih
    have := hw.inj h'
    exact ⟨_, hx, by rw [List.length_cons, l, this]⟩
/-! ### classes -/
theorem nat_ext {l m : List Nat} (hl : l.Pairwise (· < ·)) (hm : m.Pairwise (· < ·)) (h : ∀ x, x ∈ l ↔ x ∈ m) : l = m := Mc.lt_ext (R := fun a b : Nat => a < b) (fun x => by omega) (fun x y z h k => by omega) hl hm h
theorem cls_asc (n s : Nat) : (Mc.cls A n s).Pairwise (· < ·) := (Mc.range_lt (n + 1)).sublist List.filter_sublist
/-- a class, its spots counted from the end -/
def mr (n : Nat) (c : List Nat) : List Nat := (c.map fun i => n - i).reverse
theorem mr_asc {c : List Nat} (h : c.Pairwise (· < ·)) (l : ∀ x ∈ c, x ≤ n) : (mr n c).Pairwise (· < ·) := by
  unfold mr
  rw [List.pairwise_reverse, List.pairwise_map]
  refine List.Pairwise.imp_of_mem ?_ h
  intro a b ha hb hab
  have := l a ha
  have := l b hb
  show n - b < n - a
  omega
theorem mem_mr {c : List Nat} {x : Nat} : x ∈ mr n c ↔ ∃ i ∈ c, n - i = x := by
  unfold mr
  rw [List.mem_reverse, List.mem_map]
theorem Mir.cls (m : Mir A B n) {s : Nat} (hs : s ≤ n) : mr n (Mc.cls A n s) = Mc.cls B n (n - s) := by
  refine nat_ext (mr_asc (cls_asc n s) fun x h => (Mc.mem_cls.mp h).1) (cls_asc n _) fun x => ?_
  rw [mem_mr, Mc.mem_cls]
  constructor
  · rintro ⟨i, hi, rfl⟩
    obtain ⟨h1, h2⟩ := Mc.mem_cls.mp hi
    exact ⟨Nat.sub_le _ _, m.star h2⟩
  · rintro ⟨h1, h2⟩
    refine ⟨n - x, Mc.mem_cls.mpr ⟨Nat.sub_le _ _, ?_⟩, Nat.sub_sub_self h1⟩
    have := m.symm.star h2
    rwa [Nat.sub_sub_self hs] at this
theorem cls_head (sy : ∀ i j, A i j → A j i) {s : Nat} (h : Mc.Rep A s) (hs : s ≤ n) : ∃ r, Mc.cls A n s = s :: r := by
  have mem : s ∈ Mc.cls A n s := Mc.mem_cls.mpr ⟨hs, .refl⟩
  have asc := cls_asc (A := A) n s
  cases e : Mc.cls A n s with
  | nil => rw [e] at mem; cases mem
  | cons a r =>
    rw [e] at mem asc
    rcases List.mem_cons.mp mem with q | q
    · exact ⟨r, by rw [q]⟩
    · have l := (List.pairwise_cons.mp asc).1 _ q
      have : a ∈ Mc.cls A n s := by rw [e]; exact List.mem_cons_self
      exact absurd ((Mc.mem_cls.mp this).2.symm sy) (h a l)
def HeadLt (c d : List Nat) : Prop := ∃ a r b q, c = a :: r ∧ d = b :: q ∧ a < b
theorem classes_asc (sy : ∀ i j, A i j → A j i) : (Mc.classesTo A n (n + 1)).Pairwise HeadLt := by
  unfold Mc.classesTo
  rw [List.pairwise_map]
  refine List.Pairwise.imp_of_mem ?_ ((Mc.range_lt (n + 1)).sublist List.filter_sublist)
  intro a b ha hb hab
  rw [List.mem_filter, List.mem_range, decide_eq_true_iff] at ha hb
  obtain ⟨r, e⟩ := cls_head sy ha.2 (by omega : a ≤ n)
  obtain ⟨q, f⟩ := cls_head sy hb.2 (by omega : b ≤ n)
  exact ⟨a, r, b, q, e, f, hab⟩
theorem head_ne {c d : List Nat} (h : HeadLt c d) : c ≠ d := by
  rintro rfl
  obtain ⟨a, r, b, q, e, f, l⟩ := h
  rw [e] at f
  have := (List.cons.inj f).1
  omega
theorem cls_star (sy : ∀ i j, A i j → A j i) {s t : Nat} (h : Mw.Star A s t) : Mc.cls A n s = Mc.cls A n t := by
  refine nat_ext (cls_asc n s) (cls_asc n t) fun x => ?_
  rw [Mc.mem_cls, Mc.mem_cls]
  exact ⟨fun ⟨a, b⟩ => ⟨a, (h.symm sy).trans b⟩, fun ⟨a, b⟩ => ⟨a, h.trans b⟩⟩
theorem rep_eq (sy : ∀ i j, A i j → A j i) {s t : Nat} (hs : Mc.Rep A s) (ht : Mc.Rep A t) (h : Mw.Star A s t) : s = t := by
  rcases Nat.lt_trichotomy s t with c | c | c
  · exact absurd h (ht s c)
  · exact c
  · exact absurd (h.symm sy) (hs t c)
theorem Mir.classes (m : Mir A B n) : ((Mc.classesTo A n (n + 1)).map (mr n)).Perm (Mc.classesTo B n (n + 1)) := by
  have one : ∀ {s}, s < n + 1 → Mc.Rep A s → mr n (Mc.cls A n s) = Mc.cls B n (n - s) := fun hs _ => m.cls (by omega)
  refine (List.perm_ext_iff_of_nodup ?_ ((classes_asc m.symm.sa).imp fun h => head_ne h)).mpr fun c => ?_
  · unfold Mc.classesTo
    rw [List.map_map, List.nodup_iff_pairwise_ne, List.pairwise_map]
    refine List.Pairwise.imp_of_mem ?_ ((Mc.range_lt (n + 1)).sublist List.filter_sublist)
    intro a b ha hb hab e
    rw [List.mem_filter, List.mem_range, decide_eq_true_iff] at ha hb
    rw [Function.comp_apply, Function.comp_apply, one ha.1 ha.2, one hb.1 hb.2] at e
    have : n - b ∈ Mc.cls B n (n - a) := by rw [e]; exact Mc.mem_cls.mpr ⟨Nat.sub_le _ _, .refl⟩
    have st := m.symm.star (Mc.mem_cls.mp this).2
    rw [Nat.sub_sub_self (by omega : a ≤ n), Nat.sub_sub_self (by omega : b ≤ n)] at st
    have := rep_eq m.sa ha.2 hb.2 st
    omega
  · rw [List.mem_map, Mc.mem_classesTo]
    constructor
    · rintro ⟨d, hd, rfl⟩
      obtain ⟨s, hs, rs, rfl⟩ := Mc.mem_classesTo.mp hd
      obtain ⟨r, h1, h2, h3⟩ := Mc.rep_below m.symm.sa (Mw.Star.refl (R := B) (x := n - s))
      exact ⟨r, by omega, h2, by rw [one hs rs]; exact (cls_star m.symm.sa h3).symm⟩
    · rintro ⟨s, hs, rs, rfl⟩
      obtain ⟨r, h1, h2, h3⟩ := Mc.rep_below m.sa (Mw.Star.refl (R := A) (x := n - s))
      refine ⟨_, Mc.mem_classesTo.mpr ⟨r, by omega, h2, rfl⟩, ?_⟩
      have st := m.star h3
      rw [Nat.sub_sub_self (by omega : s ≤ n)] at st
      rw [one (by omega) h2]
      exact cls_star m.symm.sa st
/-! ### a piece of a text -/
theorem occ_iff {W z : Str} {s : Nat} : Mw.Occ W z s ↔ ∃ a b, z.cps.toList = a ++ W.cps.toList ++ b ∧ a.length = s := by
  have zl : z.cps.toList.length = z.length := Array.length_toList
  have wl : W.cps.toList.length = W.length := Array.length_toList
  have key : s + W.length ≤ z.length → (cutS z (some (s : Int)) (some ((s : Int) + (W.length : Int)))).cps.toList = (z.cps.toList.drop s).take W.length := fun h => by
    show ((((z.cps.toList.drop (HT.sIx z.length 0 (some (s : Int)))).take (HT.sIx z.length z.length (some ((s : Int) + (W.length : Int))) - HT.sIx z.length 0 (some (s : Int)))).toArray).toList) = _
    rw [show (s : Int) + (W.length : Int) = ((s + W.length : Nat) : Int) by omega, HT.sIx_nat, HT.sIx_nat, show min s z.length = s by omega, show min (s + W.length) z.length = s + W.length by omega, show s + W.length - s = W.length by omega]
  constructor
  · rintro ⟨h, e⟩
    have e' := congrArg (fun x : Str => x.cps.toList) e
    have e' := (key h).symm.trans e'
    refine ⟨z.cps.toList.take s, z.cps.toList.drop (s + W.length), ?_, by rw [List.length_take]; omega⟩
    rw [show W.cps.toList = (z.cps.toList.drop s).take W.length from e'.symm, List.append_assoc, ← List.drop_drop, List.take_append_drop, List.take_append_drop]
  · rintro ⟨a, b, e, rfl⟩
    have h : a.length + W.length ≤ z.length := by
      rw [← zl, e, List.length_append, List.length_append, wl]
      omega
    refine ⟨h, str_ext ?_⟩
    rw [key h, e, List.append_assoc, List.drop_left, ← wl, List.take_left]
end Mt

/-! Plain law: the ways that are found are zigzags: no spot twice. -/
namespace Mp
open Mt
variable {A : Nat → Nat → Prop} {n : Nat}
/-- a row of spots from x to n, each joined with the next, none twice -/
structure ZigX (A : Nat → Nat → Prop) (n x : Nat) (P : List Nat) : Prop where
  head : P[0]? = some x
  last : P.getLast? = some n
  nd : P.Nodup
  adj : ∀ (i a b : Nat), P[i]? = some a → P[i + 1]? = some b → A a b
theorem ZigX.one : ZigX A n n [n] := ⟨rfl, rfl, List.nodup_cons.mpr ⟨by simp, List.nodup_nil⟩, fun i a b _ h => by simp at h⟩
theorem ZigX.cons {x w : Nat} {P : List Nat} (h : ZigX A n w P) (a : A x w) (no : x ∉ P) : ZigX A n x (x :: P) where
  head := rfl
  last := by
    cases P with
    | nil => have := h.head; simp at this
    | cons y r => rw [List.getLast?_cons_cons]; exact h.last
  nd := List.nodup_cons.mpr ⟨no, h.nd⟩
  adj i c d hc hd := by
    cases i with
    | zero =>
      cases (show x = c from by simpa using hc)
      have hd' : P[0]? = some d := by simpa using hd
      rw [h.head] at hd'
      cases hd'
      exact a
    | succ i => exact h.adj i c d (by simpa using hc) (by simpa using hd)
/-! ### the shortest -/
theorem gr_far {x : Nat} {P : List Nat} (h : Mz.Gr A n x P) : ∀ {y d : Nat}, y ∈ P → Mz.Dist A x n d → ∃ e, Mz.Dist A y n e ∧ e ≤ d := by
  induction h with
  | stop => exact fun {y d} m hd => ⟨d, by rw [List.mem_singleton.mp m]; exact hd, Nat.le_refl _⟩
  | @step x w k P hx r hw least h ih =>
    intro y d m hd
    rcases List.mem_cons.mp m with e | m
    · subst e
      exact ⟨d, hd, Nat.le_refl _⟩
    · obtain ⟨e, he, le⟩ := ih m hw
      have := hx.inj hd
      exact ⟨e, he, by omega⟩
theorem gr_zig {x : Nat} {P : List Nat} (h : Mz.Gr A n x P) : ZigX A n x P := by
  induction h with
  | stop => exact .one
  | @step x w k P hx r hw least h ih =>
    refine ih.cons r fun m => ?_
    obtain ⟨e, he, le⟩ := gr_far h m hw
    have := hx.inj he
    omega
/-! ### the calmest -/
theorem wy_mono (irr : ∀ i j, A i j → i ≠ j) {s t k e : Nat} {u d : Bool} (h : Wy A s u t k e d) (t0 : t = 0) (k0 : k ≠ 0) : if u = true then s < e else e < s := by
  induction h with
  | nil => exact absurd rfl k0
  | @cons s o t k e u d a h ih =>
    have t1 : t = 0 := by omega
    have du : decide (s < o) = u := by
      have : Mk.tn u (decide (s < o)) = 0 := by omega
      unfold Mk.tn at this
      split at this
      · assumption
      · omega
    have ne := irr _ _ a
    have first : if u = true then s < o else o < s := by
      cases u with
      | true => rw [if_pos rfl]; exact of_decide_eq_true du
      | false => rw [if_neg Bool.false_ne_true]; have := of_decide_eq_false du; omega
    cases k with
    | zero =>
      cases h
      exact first
    | succ k =>
      have := ih t1 (by omega)
      rw [du] at this
      cases u with
      | true =>
        rw [if_pos rfl] at this first ⊢
        omega
      | false =>
        rw [if_neg Bool.false_ne_true] at this first ⊢
        omega
theorem cw_other {s t k : Nat} {u : Bool} (h : Mk.Cw A n s u t k) (ne : s ≠ n) (v : Bool) : ∃ t', Mk.Cw A n s v t' k ∧ t' ≤ t + 1 := by
  obtain ⟨o, q, a, c, e⟩ := h.next ne
  have e1 := congrArg Prod.fst e
  have e2 := congrArg Prod.snd e
  have h1 : t = q.1 + Mk.tn u (decide (s < o)) := e1
  have h2 : k = q.2 + 1 := e2
  subst h2
  refine ⟨_, .step ne a c, ?_⟩
  have : Mk.tn v (decide (s < o)) ≤ 1 := by unfold Mk.tn; split <;> omega
  omega
theorem gc_far {s : Nat} {u : Bool} {P : List Nat} (h : Mk.Gc A n s u P) : ∀ {y : Nat}, y ∈ P → ∃ (u2 : Bool) (t k : Nat) (p : Nat × Nat), Wy A s u t k y u2 ∧ Mk.Least A n y u2 p ∧ Mk.Least A n s u (t + p.1, k + p.2) := by
  induction h with
  | stop u =>
    intro y m
    rw [List.mem_singleton.mp m]
    have l : Mk.Least A n n u (0, 0) := ⟨.stop u, fun t k _ => Mk.lx_zero _⟩
    exact ⟨u, 0, 0, (0, 0), .nil _ _, l, l⟩
  | @step s o u p q P ne hs a ho e least h ih =>
    intro y m
    rcases List.mem_cons.mp m with ey | m
    · subst ey
      refine ⟨u, 0, 0, p, .nil _ _, hs, ?_⟩
      rw [Nat.zero_add, Nat.zero_add]
      exact hs
    · obtain ⟨u2, t, k, p2, w, l2, lo⟩ := ih m
      have eq := ho.inj lo
      refine ⟨u2, _, _, p2, .cons a w, l2, ?_⟩
      have : p = (t + Mk.tn u (decide (s < o)) + p2.1, k + 1 + p2.2) := by
        rw [e, eq]
        unfold Mk.add
        simp only
        refine Prod.ext ?_ ?_
        · show t + p2.1 + _ = t + _ + p2.1
          omega
        · show k + p2.2 + 1 = k + 1 + p2.2
          omega
      rw [← this]
      exact hs
theorem gc_zig (irr : ∀ i j, A i j → i ≠ j) {s : Nat} {u : Bool} {P : List Nat} (h : Mk.Gc A n s u P) : ZigX A n s P := by
  induction h with
  | stop u => exact .one
  | @step s o u p q P ne hs a ho e least h ih =>
    refine ih.cons a fun m => ?_
    obtain ⟨u2, t, k, p2, w, l2, lo⟩ := gc_far h m
    have w' := Wy.cons (u := u) a w
    have pos : t + Mk.tn u (decide (s < o)) ≠ 0 := fun z => by
      have := wy_mono irr w' z (by omega)
      split at this <;> omega
    obtain ⟨t', c', le⟩ := cw_other l2.1 ne u
    have eq := ho.inj lo
    have := hs.2 _ _ c'
    rw [e, eq] at this
    unfold Mk.lx Mk.add at this
    simp only at this
    omega
theorem ZigX.len {P : List Nat} {x : Nat} (h : ZigX A n x P) (ne : x ≠ n) : 2 ≤ P.length := by
  cases P with
  | nil => have := h.head; simp at this
  | cons a r =>
    cases r with
    | nil =>
      have h1 := h.head
      have h2 := h.last
      simp at h1 h2
      omega
    | cons b r => simp
theorem ZigX.le (hA : ∀ i j, A i j → i ≤ n ∧ j ≤ n) {x : Nat} {P : List Nat} (h : ZigX A n x P) (hx : x ≤ n) : ∀ y ∈ P, y ≤ n := fun y m => by
  obtain ⟨i, hi, e⟩ := List.getElem_of_mem m
  cases i with
  | zero =>
    have := h.head
    rw [List.getElem?_eq_getElem hi, e] at this
    cases this
    exact hx
  | succ i => exact (hA _ _ (h.adj i _ y (List.getElem?_eq_getElem (by omega)) (by rw [List.getElem?_eq_getElem hi, e]))).2
end Mp

/-! Plain law: all zigzags, level by level. -/
namespace Mq
open Mp
variable {A : Nat → Nat → Prop} {n : Nat}
theorem zig_snoc {x y : Nat} {P : List Nat} {s : Nat} (h : ZigX A x s P) (a : A x y) (no : y ∉ P) : ZigX A y s (P ++ [y]) where
  head := by
    have := (List.getElem?_eq_some_iff.mp h.head).1
    rw [List.getElem?_append_left this]
    exact h.head
  last := by simp
  nd := by
    rw [List.nodup_iff_pairwise_ne, List.pairwise_append]
    refine ⟨List.nodup_iff_pairwise_ne.mp h.nd, by simp, fun u hu v hv e => ?_⟩
    rw [List.mem_singleton.mp hv] at e
    exact no (e ▸ hu)
  adj i u v hu hv := by
    rcases Nat.lt_or_ge (i + 1) P.length with c | c
    · rw [List.getElem?_append_left (by omega)] at hu
      rw [List.getElem?_append_left c] at hv
      exact h.adj i u v hu hv
    · have l := (List.getElem?_eq_some_iff.mp hv).1
      rw [List.length_append, List.length_singleton] at l
      have e : i + 1 = P.length := by omega
      rw [List.getElem?_append_right c, e, Nat.sub_self] at hv
      cases (show y = v from by simpa using hv)
      rw [List.getElem?_append_left (by omega)] at hu
      have hl := h.last
      rw [List.getLast?_eq_getElem?, ← e, Nat.add_sub_cancel, hu] at hl
      cases hl
      exact a
theorem zig_drop {y : Nat} {P : List Nat} {s : Nat} (h : ZigX A y s P) (two : 2 ≤ P.length) : ∃ x, ZigX A x s P.dropLast ∧ A x y ∧ y ∉ P.dropLast ∧ P = P.dropLast ++ [y] := by
  obtain ⟨R, e⟩ := List.getLast?_eq_some_iff.mp h.last
  subst e
  rw [List.length_append, List.length_singleton] at two
  rw [List.dropLast_concat]
  have nd := List.nodup_iff_pairwise_ne.mp h.nd
  rw [List.pairwise_append] at nd
  have ex : R[R.length - 1]? = some (R[R.length - 1]'(by omega)) := List.getElem?_eq_getElem _
  refine ⟨R[R.length - 1]'(by omega), ⟨?_, ?_, List.nodup_iff_pairwise_ne.mpr nd.1, fun i u v hu hv => ?_⟩, ?_, fun m => nd.2.2 y m y (by simp) rfl, rfl⟩
  · have := h.head
    rwa [List.getElem?_append_left (by omega)] at this
  · rw [List.getLast?_eq_getElem?]
    exact ex
  · have l := (List.getElem?_eq_some_iff.mp hv).1
    exact h.adj i u v (by rw [List.getElem?_append_left (by omega)]; exact hu) (by rw [List.getElem?_append_left l]; exact hv)
  · refine h.adj (R.length - 1) _ y (by rw [List.getElem?_append_left (by omega)]; exact ex) ?_
    rw [show R.length - 1 + 1 = R.length by omega, List.getElem?_append_right (Nat.le_refl _), Nat.sub_self]
    rfl
open Classical in
noncomputable def nears (A : Nat → Nat → Prop) (n x : Nat) : List Nat := (List.range (n + 1)).filter fun y => decide (A x y)
open Classical in
theorem mem_nears {x y : Nat} : y ∈ nears A n x ↔ y ≤ n ∧ A x y := by
  unfold nears
  rw [List.mem_filter, List.mem_range, decide_eq_true_iff]
  exact ⟨fun h => ⟨by omega, h.2⟩, fun h => ⟨by omega, h.2⟩⟩
theorem nears_lt (x : Nat) : (nears A n x).Pairwise (· < ·) := (Mc.range_lt _).sublist List.filter_sublist
theorem nears_len (x : Nat) : (nears A n x).length ≤ n + 1 := by
  have := List.length_filter_le (fun y => @decide (A x y) (Classical.propDecidable _)) (List.range (n + 1))
  rw [List.length_range] at this
  exact this
def lastN (P : List Nat) : Nat := P.getLast?.getD 0
theorem lastN_of {P : List Nat} {x : Nat} (h : P.getLast? = some x) : lastN P = x := by unfold lastN; rw [h]; rfl
def fresh (P : List Nat) (y : Nat) : Bool := !decide (y ∈ P)
noncomputable def kids (A : Nat → Nat → Prop) (n : Nat) (P : List Nat) : List (List Nat) := if lastN P = n then [] else ((nears A n (lastN P)).filter (fresh P)).map fun y => P ++ [y]
def atEnd (n : Nat) (P : List Nat) : Bool := decide (lastN P = n)
noncomputable def lv (A : Nat → Nat → Prop) (n : Nat) : Nat → List (List Nat)
  | 0 => [[0]]
  | i + 1 => ((lv A n i).flatMap (kids A n)).take 4000
noncomputable def fnd (A : Nat → Nat → Prop) (n : Nat) : Nat → List (List Nat)
  | 0 => []
  | i + 1 => fnd A n i ++ (lv A n i).filter (atEnd n)
theorem kids_len (P : List Nat) : (kids A n P).length ≤ n + 1 := by
  unfold kids
  split
  · exact Nat.zero_le _
  · rw [List.length_map]
    exact Nat.le_trans (List.length_filter_le _ _) (nears_len _)
theorem flat_len : ∀ l : List (List Nat), (l.flatMap (kids A n)).length ≤ l.length * (n + 1)
  | [] => Nat.zero_le _
  | P :: l => by
    rw [List.flatMap_cons, List.length_append, List.length_cons, Nat.add_mul, Nat.one_mul]
    have := flat_len l
    have := kids_len (A := A) (n := n) P
    omega
theorem lv_len : ∀ i, (lv A n i).length ≤ 4000
  | 0 => by show 1 ≤ 4000; decide
  | i + 1 => by show (List.take _ _).length ≤ _; rw [List.length_take]; omega
theorem fnd_len : ∀ i, (fnd A n i).length ≤ 4000 * i
  | 0 => Nat.zero_le _
  | i + 1 => by
    show (fnd A n i ++ _).length ≤ _
    rw [List.length_append]
    have := fnd_len i
    have := List.length_filter_le (atEnd n) (lv A n i)
    have := lv_len (A := A) (n := n) i
    omega
theorem kid {P R : List Nat} (h : R ∈ kids A n P) : lastN P ≠ n ∧ ∃ y, y ≤ n ∧ A (lastN P) y ∧ y ∉ P ∧ R = P ++ [y] := by
  unfold kids at h
  split at h
  · cases h
  · rename_i c
    obtain ⟨y, hy, rfl⟩ := List.mem_map.mp h
    obtain ⟨h1, h2⟩ := List.mem_filter.mp hy
    obtain ⟨h3, h4⟩ := mem_nears.mp h1
    refine ⟨c, y, h3, h4, fun m => ?_, rfl⟩
    unfold fresh at h2
    rw [decide_eq_true m] at h2
    cases h2
theorem lv_zig : ∀ i P, P ∈ lv A n i → ∃ x, x ≤ n ∧ ZigX A x 0 P ∧ P.length = i + 1
  | 0, P, h => by
    rw [List.mem_singleton.mp h]
    exact ⟨0, Nat.zero_le _, .one, rfl⟩
  | i + 1, P, h => by
    obtain ⟨R, hR, hP⟩ := List.mem_flatMap.mp (List.mem_of_mem_take h)
    obtain ⟨x, hx, zx, lx⟩ := lv_zig i R hR
    obtain ⟨_, y, hy, a, no, rfl⟩ := kid hP
    rw [lastN_of zx.last] at a
    exact ⟨y, hy, zig_snoc zx a no, by rw [List.length_append, lx]; rfl⟩
theorem fnd_zig : ∀ i P, P ∈ fnd A n i → ZigX A n 0 P
  | 0, P, h => by cases h
  | i + 1, P, h => by
    rcases List.mem_append.mp h with h | h
    · exact fnd_zig i P h
    · obtain ⟨h1, h2⟩ := List.mem_filter.mp h
      obtain ⟨x, hx, zx, _⟩ := lv_zig i P h1
      have := of_decide_eq_true h2
      rw [lastN_of zx.last] at this
      exact this ▸ zx
/-! ### short words: no way is left out -/
def B (n : Nat) : Nat → Nat
  | 0 => 1
  | i + 1 => B n i * (n - i)
theorem B_le : ∀ n, n ≤ 6 → ∀ i, i ≤ 8 → B n i ≤ 4000 := by
  have h : ∀ n, n < 7 → ∀ i, i < 9 → B n i ≤ 4000 := by decide
  exact fun n hn i hi => h n (by omega) i (by omega)
theorem kids_few {P : List Nat} {x : Nat} (zx : ZigX A x 0 P) (le : ∀ y ∈ P, y ≤ n) : (kids A n P).length ≤ n + 1 - P.length := by
  unfold kids
  split
  · exact Nat.zero_le _
  · rw [List.length_map]
    have h := Mw.nodup_le ((nears A n (lastN P)).filter (fresh P) ++ P) (List.range (n + 1)) ?_ ?_
    · rw [List.length_append, List.length_range] at h
      omega
    · rw [List.nodup_iff_pairwise_ne, List.pairwise_append]
      refine ⟨((nears_lt _).sublist List.filter_sublist).imp fun h => by omega, List.nodup_iff_pairwise_ne.mp zx.nd, fun u hu v hv e => ?_⟩
      have := (List.mem_filter.mp hu).2
      unfold fresh at this
      rw [e, decide_eq_true hv] at this
      cases this
    · intro u hu
      rw [List.mem_range]
      rcases List.mem_append.mp hu with hu | hu
      · have := (mem_nears.mp (List.mem_filter.mp hu).1).1
        omega
      · have := le u hu
        omega
theorem lv_le : ∀ i P, P ∈ lv A n i → ∀ y ∈ P, y ≤ n
  | 0, P, h, y, m => by
    rw [List.mem_singleton.mp h] at m
    rw [List.mem_singleton.mp m]
    exact Nat.zero_le _
  | i + 1, P, h, y, m => by
    obtain ⟨R, hR, hP⟩ := List.mem_flatMap.mp (List.mem_of_mem_take h)
    obtain ⟨_, z, hz, a, no, rfl⟩ := kid hP
    rcases List.mem_append.mp m with m | m
    · exact lv_le i R hR y m
    · rw [List.mem_singleton.mp m]
      exact hz
theorem flat_few {k : Nat} : ∀ l : List (List Nat), (∀ P ∈ l, (kids A n P).length ≤ k) → (l.flatMap (kids A n)).length ≤ l.length * k
  | [], _ => Nat.zero_le _
  | P :: l, h => by
    rw [List.flatMap_cons, List.length_append, List.length_cons, Nat.add_mul, Nat.one_mul]
    have := flat_few l fun Q m => h Q (List.mem_cons_of_mem _ m)
    have := h P (List.mem_cons_self ..)
    omega
theorem lv_few : ∀ i, (lv A n i).length ≤ B n i
  | 0 => Nat.le_refl _
  | i + 1 => by
    have h1 := lv_few i
    have h2 := flat_few (A := A) (n := n) (k := n - i) (lv A n i) fun P m => by
      obtain ⟨x, hx, zx, lx⟩ := lv_zig i P m
      have := kids_few zx (lv_le i P m)
      omega
    show (List.take _ _).length ≤ B n i * (n - i)
    rw [List.length_take]
    exact Nat.le_trans (Nat.min_le_right _ _) (Nat.le_trans h2 (Nat.mul_le_mul_right _ h1))
theorem lv_flat (hn : n ≤ 6) {i : Nat} (hi : i ≤ 7) : lv A n (i + 1) = (lv A n i).flatMap (kids A n) := by
  show List.take _ _ = _
  refine List.take_of_length_le ?_
  have h2 := flat_few (A := A) (n := n) (k := n - i) (lv A n i) fun P m => by
    obtain ⟨x, hx, zx, lx⟩ := lv_zig i P m
    have := kids_few zx (lv_le i P m)
    omega
  have h3 := B_le n hn (i + 1) (by omega)
  exact Nat.le_trans h2 (Nat.le_trans (Nat.mul_le_mul_right _ (lv_few i)) h3)
theorem lv_all (hn : n ≤ 6) : ∀ i, i ≤ 8 → ∀ P x, ZigX A x 0 P → P.length = i + 1 → n ∉ P.dropLast → (∀ y ∈ P, y ≤ n) → P ∈ lv A n i
  | 0, _, P, x, zx, l, _, _ => by
    match P, l, zx.head with
    | [a], _, h =>
      cases (show a = 0 from by simpa using h)
      exact List.mem_singleton_self _
  | i + 1, hi, P, y, zx, l, no, le => by
    obtain ⟨x, z2, a, n2, e⟩ := zig_drop zx (by omega)
    rw [lv_flat hn (by omega)]
    have lx := lastN_of z2.last
    have mx : x ∈ P.dropLast := List.mem_of_getLast? z2.last
    have me : ∀ u, u ∈ P.dropLast → u ∈ P := fun u h => (List.dropLast_sublist _).subset h
    refine List.mem_flatMap.mpr ⟨P.dropLast, lv_all hn i (by omega) _ x z2 (by rw [List.length_dropLast]; omega) (fun m => no ((List.dropLast_sublist _).subset m)) fun u m => le u (me u m), ?_⟩
    unfold kids
    rw [lx, if_neg (fun q => no (by rw [← q]; exact mx))]
    refine List.mem_map.mpr ⟨y, List.mem_filter.mpr ⟨mem_nears.mpr ⟨le y (List.mem_of_getLast? zx.last), a⟩, ?_⟩, e.symm⟩
    unfold fresh
    rw [decide_eq_false n2]
    rfl
theorem fnd_mono {i : Nat} : ∀ {j : Nat}, i ≤ j → ∀ P, P ∈ fnd A n i → P ∈ fnd A n j
  | 0, h, P, m => by
    have : i = 0 := by omega
    exact this ▸ m
  | j + 1, h, P, m => by
    rcases Nat.lt_or_ge i (j + 1) with c | c
    · exact List.mem_append_left _ (fnd_mono (by omega) P m)
    · have : i = j + 1 := by omega
      exact this ▸ m
theorem fnd_all (hn : n ≤ 6) (hA : ∀ i j, A i j → i ≤ n ∧ j ≤ n) {P : List Nat} (zx : ZigX A n 0 P) : P ∈ fnd A n (n + 1) := by
  have le := zx.le hA (Nat.zero_le _)
  have few := Mw.nodup_le P (List.range (n + 1)) zx.nd fun x m => List.mem_range.mpr (by have := le x m; omega)
  rw [List.length_range] at few
  have one := (List.getElem?_eq_some_iff.mp zx.head).1
  have no : n ∉ P.dropLast := by
    obtain ⟨R, e⟩ := List.getLast?_eq_some_iff.mp zx.last
    rw [e, List.dropLast_concat]
    have nd := zx.nd
    rw [e, List.nodup_iff_pairwise_ne, List.pairwise_append] at nd
    exact fun m => nd.2.2 n m n (by simp) rfl
  have m := lv_all hn (P.length - 1) (by omega) P n zx (by omega) no le
  refine fnd_mono (i := P.length - 1 + 1) (by omega) P (List.mem_append_right _ (List.mem_filter.mpr ⟨m, ?_⟩))
  exact decide_eq_true (lastN_of zx.last)
end Mq

/-! Ways along letters, and what sayings hold of places. -/
namespace Mi
variable {α : Type} {n : Nat} {R : α → List (List Nat)}
def stepF (n : Nat) (R : α → List (List Nat)) (c : α) (S : List Nat) : List Nat := (List.range n).filter fun q => decide (∃ r ∈ S, [r, q] ∈ R c)
def front (n : Nat) (R : α → List (List Nat)) (S : List Nat) (cs : List α) : List Nat := cs.foldl (fun S c => stepF n R c S) S
def pairsOf (n : Nat) (R : α → List (List Nat)) (cs : List α) : List (List Nat) := (List.range n).flatMap fun p => (front n R [p] cs).map fun q => [p, q]
def Way (n : Nat) (R : α → List (List Nat)) : List α → Nat → Nat → Prop
  | [], p, q => p = q
  | c :: cs, p, q => ∃ m, m < n ∧ [p, m] ∈ R c ∧ Way n R cs m q
theorem way_lt : ∀ {cs : List α} {p q : Nat}, Way n R cs p q → p < n → q < n
  | [], _, _, h, hp => h ▸ hp
  | _ :: _, _, _, ⟨_, hm, _, h⟩, _ => way_lt h hm
theorem way_app : ∀ {a b : List α} {p q : Nat}, Way n R (a ++ b) p q ↔ ∃ m, Way n R a p m ∧ Way n R b m q
  | [], b, p, q => ⟨fun h => ⟨p, rfl, h⟩, fun ⟨m, e, h⟩ => by have e : p = m := e; rw [e]; exact h⟩
  | c :: a, b, p, q => by
    constructor
    · rintro ⟨m, hm, r, h⟩
      obtain ⟨k, h1, h2⟩ := way_app.mp h
      exact ⟨k, ⟨m, hm, r, h1⟩, h2⟩
    · rintro ⟨k, ⟨m, hm, r, h1⟩, h2⟩
      exact ⟨m, hm, r, way_app.mpr ⟨k, h1, h2⟩⟩
theorem mem_step {c : α} {S : List Nat} {q : Nat} : q ∈ stepF n R c S ↔ q < n ∧ ∃ r ∈ S, [r, q] ∈ R c := by
  unfold stepF
  rw [List.mem_filter, List.mem_range, decide_eq_true_iff]
theorem mem_front : ∀ {cs : List α} {S : List Nat} {q : Nat}, q ∈ front n R S cs ↔ ∃ p ∈ S, Way n R cs p q
  | [], S, q => ⟨fun h => ⟨q, h, rfl⟩, fun ⟨p, h, e⟩ => by have e : p = q := e; rw [← e]; exact h⟩
  | c :: cs, S, q => by
    show q ∈ front n R (stepF n R c S) cs ↔ _
    rw [mem_front]
    constructor
    · rintro ⟨m, hm, h⟩
      obtain ⟨l, r, hr, e⟩ := mem_step.mp hm
      exact ⟨r, hr, m, l, e, h⟩
    · rintro ⟨p, hp, m, l, e, h⟩
      exact ⟨m, mem_step.mpr ⟨l, p, hp, e⟩, h⟩
theorem mem_pairs' {cs : List α} {x : List Nat} : x ∈ pairsOf n R cs ↔ ∃ p q, x = [p, q] ∧ p < n ∧ Way n R cs p q := by
  unfold pairsOf
  rw [List.mem_flatMap]
  constructor
  · rintro ⟨p, hp, h⟩
    obtain ⟨q, hq, rfl⟩ := List.mem_map.mp h
    obtain ⟨p', m, w⟩ := mem_front.mp hq
    rw [List.mem_singleton.mp m] at w
    exact ⟨p, q, rfl, List.mem_range.mp hp, w⟩
  · rintro ⟨p, q, rfl, hp, w⟩
    exact ⟨p, List.mem_range.mpr hp, List.mem_map.mpr ⟨q, mem_front.mpr ⟨p, List.mem_singleton.mpr rfl, w⟩, rfl⟩⟩
theorem mem_pairs {cs : List α} {p q : Nat} : [p, q] ∈ pairsOf n R cs ↔ p < n ∧ Way n R cs p q := by
  rw [mem_pairs']
  constructor
  · rintro ⟨p', q', e, h⟩
    injection e with e1 e2
    injection e2 with e2 _
    subst e1 e2
    exact h
  · exact fun h => ⟨p, q, rfl, h⟩
theorem front_nodup : ∀ {cs : List α} {S : List Nat}, S.Nodup → (front n R S cs).Nodup
  | [], _, h => h
  | c :: cs, S, _ => by
    have h : (stepF n R c S).Nodup := List.Pairwise.filter _ List.nodup_range
    exact front_nodup (cs := cs) h
theorem front_len : ∀ {cs : List α} {S : List Nat}, (front n R S cs).length ≤ max S.length n
  | [], S => Nat.le_max_left _ _
  | c :: cs, S => by
    refine Nat.le_trans (front_len (cs := cs) (S := stepF n R c S)) ?_
    have : (stepF n R c S).length ≤ n := by
      refine Nat.le_trans (List.length_filter_le _ _) ?_
      rw [List.length_range]
      exact Nat.le_refl _
    omega
theorem pairs_nodup {cs : List α} : (pairsOf n R cs).Nodup := by
  unfold pairsOf List.Nodup
  rw [List.pairwise_flatMap]
  refine ⟨fun p _ => ?_, List.nodup_range.imp fun {a b} h x hx y hy e => ?_⟩
  · rw [List.pairwise_map]
    exact (front_nodup (List.nodup_cons.mpr ⟨List.not_mem_nil, List.nodup_nil⟩)).imp fun {a b} h e => h (by injection e with _ e; injection e)
  · obtain ⟨_, _, rfl⟩ := List.mem_map.mp hx
    obtain ⟨_, _, rfl⟩ := List.mem_map.mp hy
    injection e with e _
    exact h e
/-- what a saying holds of, for a last place -/
def good (n : Nat) (R : α → List (List Nat)) (last : List α) (y : Nat) : List (Bool × List α) → List Nat
  | [] => (List.range n).filter fun p => decide ([p, y] ∈ pairsOf n R last)
  | (true, w) :: rs => (List.range n).filter fun p => decide (∃ q ∈ good n R last y rs, [p, q] ∈ pairsOf n R w)
  | (false, w) :: rs => (List.range n).filter fun p => decide (∀ q ∈ List.range n, [q, p] ∈ pairsOf n R w → q ∈ good n R last y rs)
def holds (n : Nat) (R : α → List (List Nat)) (last : List α) (rows : List (Bool × List α)) : List (List Nat) := (List.range n).flatMap fun y => (good n R last y rows).map fun x => [x, y]
theorem good_lt {last : List α} {y : Nat} {rows : List (Bool × List α)} {p : Nat} (h : p ∈ good n R last y rows) : p < n := by
  match rows with
  | [] => exact List.mem_range.mp (List.mem_filter.mp h).1
  | (true, _) :: _ => exact List.mem_range.mp (List.mem_filter.mp h).1
  | (false, _) :: _ => exact List.mem_range.mp (List.mem_filter.mp h).1
theorem good_nodup {last : List α} {y : Nat} : ∀ {rows : List (Bool × List α)}, (good n R last y rows).Nodup
  | [] => List.Pairwise.filter _ List.nodup_range
  | (true, _) :: _ => List.Pairwise.filter _ List.nodup_range
  | (false, _) :: _ => List.Pairwise.filter _ List.nodup_range
theorem good_len {last : List α} {y : Nat} {rows : List (Bool × List α)} : (good n R last y rows).length ≤ n := by
  have f : ∀ p : Nat → Bool, ((List.range n).filter p).length ≤ n := fun p => by
    refine Nat.le_trans (List.length_filter_le _ _) ?_
    rw [List.length_range]
    exact Nat.le_refl _
  match rows with
  | [] => exact f _
  | (true, _) :: _ => exact f _
  | (false, _) :: _ => exact f _
/-- rows that lead along a word from a spot -/
inductive Link (cs : List α) : Nat → List (Bool × List α) → List α → Prop where
  | last {s : Nat} : Link cs s [] (cs.drop s)
  | on {s t : Nat} {rows : List (Bool × List α)} {l : List α} (h : s ≤ t) (r : Link cs t rows l) : Link cs s ((true, (cs.drop s).take (t - s)) :: rows) l
  | back {s t : Nat} {rows : List (Bool × List α)} {l : List α} (h : t ≤ s) (r : Link cs t rows l) : Link cs s ((false, (cs.drop t).take (s - t)) :: rows) l
theorem drop_cut {cs : List α} {s t : Nat} (h : s ≤ t) : cs.drop s = (cs.drop s).take (t - s) ++ cs.drop t := by
  have := (List.take_append_drop (t - s) (cs.drop s)).symm
  rw [List.drop_drop, show s + (t - s) = t by omega] at this
  exact this
theorem take_cut {cs : List α} {s t : Nat} (h : s ≤ t) : cs.take t = cs.take s ++ (cs.drop s).take (t - s) := by
  rw [List.take_drop, show s + (t - s) = t by omega]
  have := (List.take_append_drop s (cs.take t)).symm
  rw [List.take_take, show min s t = s by omega] at this
  exact this
theorem good_right {cs : List α} {y : Nat} : ∀ {s : Nat} {rows : List (Bool × List α)} {l : List α}, Link cs s rows l →
    (∀ p, p < n → Way n R (cs.drop s) p y → p ∈ good n R l y rows) ∧ ∀ x p, x < n → p ∈ good n R l y rows → Way n R (cs.take s) x p → Way n R cs x y := by
  intro s rows l h
  induction h with
  | @last s =>
    refine ⟨fun p hp w => List.mem_filter.mpr ⟨List.mem_range.mpr hp, decide_eq_true (mem_pairs.mpr ⟨hp, w⟩)⟩, fun x p hx hg w => ?_⟩
    have := (mem_pairs.mp (of_decide_eq_true (List.mem_filter.mp hg).2)).2
    have := way_app.mpr ⟨p, w, this⟩
    rw [List.take_append_drop] at this
    exact this
  | @on s t rows l h r ih =>
    refine ⟨fun p hp w => ?_, fun x p hx hg w => ?_⟩
    · rw [drop_cut h] at w
      obtain ⟨m, w1, w2⟩ := way_app.mp w
      exact List.mem_filter.mpr ⟨List.mem_range.mpr hp, decide_eq_true ⟨m, ih.1 m (way_lt w1 hp) w2, mem_pairs.mpr ⟨hp, w1⟩⟩⟩
    · obtain ⟨q, hq, hm⟩ := of_decide_eq_true (List.mem_filter.mp hg).2
      refine ih.2 x q hx hq ?_
      rw [take_cut h]
      exact way_app.mpr ⟨p, w, (mem_pairs.mp hm).2⟩
  | @back s t rows l h r ih =>
    refine ⟨fun p hp w => ?_, fun x p hx hg w => ?_⟩
    · refine List.mem_filter.mpr ⟨List.mem_range.mpr hp, decide_eq_true fun q hq hm => ?_⟩
      have hq := List.mem_range.mp hq
      refine ih.1 q hq ?_
      rw [drop_cut h]
      exact way_app.mpr ⟨p, (mem_pairs.mp hm).2, w⟩
    · rw [take_cut h] at w
      obtain ⟨m, w1, w2⟩ := way_app.mp w
      have hm := way_lt w1 hx
      exact ih.2 x m hx (of_decide_eq_true (List.mem_filter.mp hg).2 m (List.mem_range.mpr hm) (mem_pairs.mpr ⟨hm, w2⟩)) w1
theorem holds_nodup {l : List α} {rows : List (Bool × List α)} : (holds n R l rows).Nodup := by
  unfold holds List.Nodup
  rw [List.pairwise_flatMap]
  refine ⟨fun p _ => ?_, List.nodup_range.imp fun {a b} h x hx y hy e => ?_⟩
  · rw [List.pairwise_map]
    exact good_nodup.imp fun {a b} h e => h (by injection e)
  · obtain ⟨_, _, rfl⟩ := List.mem_map.mp hx
    obtain ⟨_, _, rfl⟩ := List.mem_map.mp hy
    injection e with _ e
    injection e with e
    exact h e
theorem holds_perm {cs : List α} {rows : List (Bool × List α)} {l : List α} (h : Link cs 0 rows l) : (holds n R l rows).Perm (pairsOf n R cs) := by
  refine (List.perm_ext_iff_of_nodup holds_nodup pairs_nodup).mpr fun a => ?_
  rw [mem_pairs']
  unfold holds
  rw [List.mem_flatMap]
  constructor
  · rintro ⟨y, hy, m⟩
    obtain ⟨x, hx, rfl⟩ := List.mem_map.mp m
    exact ⟨x, y, rfl, good_lt hx, (good_right h).2 x x (good_lt hx) hx rfl⟩
  · rintro ⟨p, q, rfl, hp, w⟩
    exact ⟨q, List.mem_range.mpr (way_lt w hp), List.mem_map.mpr ⟨p, (good_right h).1 p hp w, rfl⟩⟩
end Mi

/-! Sorting of data of any depth, and by an own key function. -/
namespace Rs
open PySem PySem.W PyProof.Rows
theorem nsOne {h : Heap} {L : Addr} {m m' : Str → Option Value} : h.Ns L m → h.Ns L m' → m = m' := by
  rintro ⟨o, es, ep, e, d, _, r⟩ ⟨o', es', ep', e', d', _, r'⟩
  have : o = o' := Option.some.inj (e.symm.trans e')
  subst this
  rw [d] at d'
  injection d' with d1 d2
  subst d1
  funext x
  exact (r x).symm.trans (r' x)
theorem each_split {α β γ : Type} {R : α → γ → Prop} {S : γ → β → Prop} : ∀ {as : List α} {bs : List β}, EachIs (fun a b => ∃ c, R a c ∧ S c b) as bs → ∃ cs : List γ, EachIs R as cs ∧ EachIs S cs bs
  | _, _, .nil => ⟨[], .nil, .nil⟩
  | _, _, .cons ⟨c, h1, h2⟩ t => let ⟨cs, q1, q2⟩ := each_split t; ⟨c :: cs, .cons h1 q1, .cons h2 q2⟩
theorem each_get {α β : Type} {R : α → β → Prop} : ∀ {as : List α} {bs : List β}, EachIs R as bs → ∀ {i : Nat} {a : α}, as[i]? = some a → ∃ b, bs[i]? = some b ∧ R a b
  | _, _, .nil, _, _, h => by simp at h
  | _, _, .cons h t, 0, _, e => by
    simp at e
    subst e
    exact ⟨_, rfl, h⟩
  | _, _, .cons h t, i + 1, _, e => each_get t (i := i) (by simpa using e)
end Rs
namespace Rs
open PySem PySem.Spec PyProof.Rows L2 PySem.W
theorem each_vals {R : V → β → Prop} : ∀ {xs : List V} {us : List Value} {bs : List β}, Vals xs us → EachIs R xs bs → EachIs (fun u b => ∃ x, RelV x u ∧ R x b) us bs
  | _, _, _, .nil, .nil => .nil
  | _, _, _, .cons r rr, .cons h t => .cons ⟨_, r, h⟩ (each_vals rr t)
theorem vals_each {R : V → β → Prop} : ∀ {us : List Value} {bs : List β}, EachIs (fun u b => ∃ x, RelV x u ∧ R x b) us bs → ∃ xs : List V, Vals xs us ∧ EachIs R xs bs
  | _, _, .nil => ⟨[], .nil, .nil⟩
  | _, _, .cons ⟨x, r, h⟩ t => let ⟨xs, q1, q2⟩ := vals_each t; ⟨x :: xs, .cons r q1, .cons h q2⟩
/-- what is asked of the keys: alike, all tuples with an item or none a tuple, not deep -/
structure Keys (ds : List PyData) : Prop where
  al : AllAlike ds
  so : Sortable ds
  dp : ∀ d ∈ ds, d.depth ≤ 50
section
variable {X : Cx}
/-- sorted(xs), data of any depth -/
def rSortD (K : PySem.W.Frag) : List V → Hp → VK → Prop := fun vs H Q => ∃ (a : Addr) (xs : List V) (β : Type) (bs : List β) (k : β → PyData) (R : V → β → Prop), vs = [V.ref a] ∧ SqL K H a xs ∧ EachIs (fun x b => Dp K H x (k b) ∧ R x b) xs bs ∧ Keys (bs.map k) ∧
  ∀ (out : List V) (p : Addr) (G : Hp), EachIs (fun x b => Dp K H x (k b) ∧ R x b) out (bs.mergeSort (dataLe false k)) → H p = none → G p = some (.lst out) → Same H G → Q (.ref p) G
theorem cr_sortD (hu : X.A.units + 64 < cLine) : CallR X (.builtin "sorted") (rSortD X.K) := by
  intro pins s σ H vs us Q I r h
  obtain ⟨a, xs, β, bs, k, R, rfl, hs, he, hk, q⟩ := h
  obtain ⟨its, rv, hl, hz⟩ := I.list hs
  obtain rfl := Vals.ref1 r
  have hz' : its.length ≤ sizeLine := by rw [← rv.length]; exact hz
  have h1 : EachIs (fun u b => ∃ x, RelV x u ∧ (Dp X.K H x (k b) ∧ R x b)) its bs := each_vals rv he
  have h2 : EachIs (fun u b => ∃ as, Reads s.heap u (k b) as) its bs := h1.mono fun u b ⟨x, rx, hx, _⟩ => Dp.reads I (k b) x u hx rx
  have h3 : EachIs (fun u d => ∃ as, Reads (sortingHeap (copyHeap s.heap its) (s.heap.objs.size + 1) its) u d as) its (bs.map k) := by
    have : ∀ {as : List Value} {bs : List β}, EachIs (fun u b => ∃ as, Reads s.heap u (k b) as) as bs → EachIs (fun u d => ∃ as, Reads (sortingHeap (copyHeap s.heap its) (s.heap.objs.size + 1) its) u d as) as (bs.map k) := by
      intro as bs h
      induction h with
      | nil => exact .nil
      | cons h _ ih =>
        obtain ⟨as, r⟩ := h
        exact .cons ⟨as, PyProof.Rows.Reads.keeps (fun b o e => sorting_copy_old e) r⟩ ih
    exact this h2
  have SA : SortsAt X.prog X.w X.A.in1.in1 { s with heap := sortingHeap (copyHeap s.heap its) (s.heap.objs.size + 1) its } (dataKind (sortingHeap (copyHeap s.heap its) (s.heap.objs.size + 1) its) (bs.map k)) its := SortsAt.data (s := { s with heap := sortingHeap (copyHeap s.heap its) (s.heap.objs.size + 1) its }) h3 hk.al hk.so fun d hd => by
    have := hk.dp d hd
    simp only [units_in1]
    omega
  refine sorted_vals hl.isList SA hz' ?_
  have out := sortVals_each (κ := dataKind (sortingHeap (copyHeap s.heap its) (s.heap.objs.size + 1) its) (bs.map k)) (rev := false) (fun b => keyToks (k b)) h1 (each_of_map k (each_keys hk.al h3))
  obtain ⟨ys, ry, hy⟩ := vals_each out
  obtain ⟨ep, he'⟩ := PyProof.Rows.sortedAll_at s.heap its (sortVals (dataKind (sortingHeap (copyHeap s.heap its) (s.heap.objs.size + 1) its) (bs.map k)) false its its).toArray
  have hlen : ys.length ≤ sizeLine := by
    rw [ry.length, sortVals_length false rfl]
    exact hz'
  have hf := I.hok.fresh (Nat.le_succ s.heap.objs.size)
  exact ⟨.ref _, upd H (s.heap.objs.size + 1) (.lst ys), I.laid (t' := s.toks) (fun _ _ => PyProof.Rows.sortedAll_old) (Nat.le_succ _) ⟨hlen, _, ep, ry, he'⟩, rfl, q ys _ _ hy hf upd_same (Rd.same_upd hf)⟩
end
end Rs
namespace Rs
open PySem PySem.Spec PyProof.Rows L2 PySem.W
theorem room2 {k : Nat} {A : Around} (r : Room (k + 1) A) : Room k A.in1.in1 :=
  ⟨r.hd, by have := r.dp; show A.depth + 3 * k + 5 < _; omega, by have := r.un; show A.units + 1 + 1 + 16 * k + 200 < _; omega⟩
theorem each_imp {α β : Type} {R S : α → β → Prop} (h : ∀ a b, R a b → S a b) : ∀ {as : List α} {bs : List β}, EachIs R as bs → EachIs S as bs
  | _, _, .nil => .nil
  | _, _, .cons q t => .cons (h _ _ q) (each_imp h t)
theorem each_reads {X : Cx} {pins : List (Addr × Obj)} {σ : L2.St} {H : Hp} {s : Shared} (I : Inv X pins σ H s) {β : Type} {k : β → PyData} : ∀ {us : List Value} {vs : List V} {bs : List β}, Vals vs us → EachIs (fun x b => Dp X.K H x (k b)) vs bs → EachIs (fun u d => ∃ as, Reads s.heap u d as) us (bs.map k)
  | _, _, _, .nil, .nil => .nil
  | _, _, _, .cons r rr, .cons h t => .cons (Dp.reads I _ _ _ h r) (each_reads I rr t)
mutual
theorem Dp.same {K : PySem.W.Frag} {H H' : Hp} (s : Same H H') : ∀ (d : PyData) (v : V), Dp K H v d → Dp K H' v d
  | .none, _, h => by cases h; exact .non
  | .bool b, _, h => by cases h; exact .bl b
  | .int i, _, h => by cases h; exact .int i
  | .str x, _, h => by cases h; exact .str x
  | .list ds, _, h => by
    cases h with
    | lst hs ha => exact .lst (s.seq hs) (Dp.sameAll s ds _ ha)
  | .tuple ds, _, h => by
    cases h with
    | tup hs ha => exact .tup (Ru.same_tup s hs) (Dp.sameAll s ds _ ha)
  | .dict _, _, h => by cases h
theorem Dp.sameAll {K : PySem.W.Frag} {H H' : Hp} (s : Same H H') : ∀ (ds : List PyData) (vs : List V), DpAll K H vs ds → DpAll K H' vs ds
  | [], _, h => by cases h; exact .nil
  | d :: ds, _, h => by
    cases h with
    | cons h1 h2 => exact .cons (Dp.same s d _ h1) (Dp.sameAll s ds _ h2)
end
theorem each_snocK {β : Type} {R : V → β → Prop} {x : V} {y : β} (hxy : R x y) : ∀ {as : List V} {bs : List β}, EachIs R as bs → EachIs R (as ++ [x]) (bs ++ [y])
  | _, _, .nil => .cons hxy .nil
  | _, _, .cons h t => .cons h (each_snocK hxy t)
def rSortK (f : Addr) (sp : Sp) (K : PySem.W.Frag) : List V → List V → Hp → VK → Prop := fun vs zs H Q => ∃ (a : Addr) (xs : List V) (β : Type) (bs : List β) (k : β → PyData) (R : V → β → Prop), vs = [V.ref a] ∧ zs = [V.ref f] ∧ SqL K H a xs ∧ EachIs R xs bs ∧ Keys (bs.map k) ∧
  (∀ x b H1, Same H H1 → b ∈ bs → R x b → sp [x] H1 (fun v H2 => Same H1 H2 ∧ Dp K H2 v (k b)) (fun _ _ _ => False)) ∧
  ∀ (out : List V) (p : Addr) (G : Hp), EachIs R out (bs.mergeSort (dataLe false k)) → H p = none → G p = some (.lst out) → Same H G → Q (.ref p) G
section
variable {X : Cx} {f : Addr} {fd : FuncData} {ps : List Str} {sp : Sp} {k : Nat}
theorem cr_sortK (F : FnOk X.prog X.w X.K X.mg X.base CX0 k f fd ps sp) (hr : Room (k + 1) X.A) (hb : Binds X.K fd ps []) : CallRK X (.builtin "sorted") [Str.ofString "key"] (rSortK f sp X.K) := by
  intro pins s σ H vs zs us ws Q I r rz h
  obtain ⟨a, xs, β, bs, key, R, rfl, rfl, hs, he, hk, hkey, q⟩ := h
  obtain ⟨its, rv, hl, hz⟩ := I.list hs
  obtain rfl := Vals.ref1 r
  obtain rfl := Vals.ref1 rz
  have hz' : its.length ≤ sizeLine := by rw [← rv.length]; exact hz
  have hbl : its.length = bs.length := by rw [← rv.length, he.length]
  refine sorted_of_sort hl.isList hz' (ksk_s1 _ _) (fun _ => ksk_l1 _ _) fun E' => ?_
  show wpAny _ _ (Builtin.«list.sort» ⟨[.ref (s.heap.objs.size + 1)], [(Str.ofString "key", .ref f)]⟩) _ E' { s with heap := copyHeap s.heap its }
  rw [ksk_t1]
  unfold ksk_tree
  have hcs : (copyHeap s.heap its).objs.size = s.heap.objs.size + 2 := by
    unfold copyHeap
    rw [size_push', Heap.size_update, size_push']
  have ho := copyHeap_at s.heap its
  refine wpAny_bind (listItems_at ho rfl ?_)
  refine wpAny_bind (listUpdate_at ho rfl ?_ (by rw [List.size_toArray]; exact hz') (Nat.zero_le _))
  obtain ⟨e1, ho1⟩ : ∃ e1, ((copyHeap s.heap its).update (s.heap.objs.size + 1) (Obj.mapSeq fun _ => #[])).get? (s.heap.objs.size + 1) = some (seqObj "list" #[] e1) := ⟨_, get?_update_seq ho fun _ => #[]⟩
  refine wpAny_bind (seqEpoch_at ho1 rfl ?_)
  refine wpAny_bind (wpAny_newTuple ?_ (by show its.length ≤ _; exact hz'))
  refine wpAny_bind (wpAny_newList ?_ (Nat.zero_le _))
  refine wpAny_holding ?_
  have hks : (((copyHeap s.heap its).update (s.heap.objs.size + 1) (Obj.mapSeq fun _ => #[])).push (seqObj "tuple" its.toArray 0)).objs.size = s.heap.objs.size + 3 := by
    rw [size_push', Heap.size_update, hcs]
  have hoa : (sortingHeap (copyHeap s.heap its) (s.heap.objs.size + 1) its).get? (s.heap.objs.size + 1) = some (seqObj "list" #[] e1) :=
    Heap.get?_push_of_some _ (Heap.get?_push_of_some _ ho1)
  have hok : (sortingHeap (copyHeap s.heap its) (s.heap.objs.size + 1) its).get? (s.heap.objs.size + 3) = some (seqObj "list" #[] 0) := by
    rw [← hks]
    exact Heap.get?_push_size _ rfl
  show wpAny _ _ (ksk_rest (s.heap.objs.size + 1) (.ref f) false its.toArray e1 (.ref (((copyHeap s.heap its).update (s.heap.objs.size + 1) (Obj.mapSeq fun _ => #[])).push (seqObj "tuple" its.toArray 0)).objs.size)) _ E' { s with heap := sortingHeap (copyHeap s.heap its) (s.heap.objs.size + 1) its }
  rw [hks]
  have hk0 : ∀ b o, s.heap.get? b = some o → (sortingHeap (copyHeap s.heap its) (s.heap.objs.size + 1) its).get? b = some o := fun b o q => sorting_copy_old q
  generalize sortingHeap (copyHeap s.heap its) (s.heap.objs.size + 1) its = g0 at hoa hok hk0
  have old : ∀ b o, s.heap.get? b = some o → b < s.heap.objs.size := fun b o e => Heap.lt_size e
  have nL : @LT.lt Nat _ X.env.locals s.heap.objs.size := I.lt
  have up : ∀ c i : Nat, c < s.heap.objs.size → c ≠ s.heap.objs.size + i := fun c i h => by omega
  have pu : ∀ c i : Nat, c < s.heap.objs.size → s.heap.objs.size + i ≠ c := fun c i h => by omega
  have le0 : ∀ i : Nat, X.s_0.heap.objs.size ≤ s.heap.objs.size + i := fun i => Nat.le_trans I.sz (Nat.le_add_right _ _)
  have n13 : ¬ s.heap.objs.size + 1 = s.heap.objs.size + 3 := by omega
  have n31 : ¬ s.heap.objs.size + 3 = s.heap.objs.size + 1 := by omega
  have nC : ∀ x c, X.env.cells.lookup x = some c → c < s.heap.objs.size := fun x c e => by
    obtain ⟨v, o, ho, _⟩ := I.cell x c e
    exact Heap.lt_size ho
  have nP : ∀ p ∈ X.pn ++ pins, p.1 < s.heap.objs.size := fun p hp => Heap.lt_size (I.pin p hp).1
  have sz := I.sz
  unfold ksk_rest
  refine wpAny_bind (wpAny_rule ?_)
  first
    | rw [List.forIn_toArray]
    | (rw [← Array.forIn_toList]; simp only [List.toList_toArray])
    | rw [← Array.forIn_toList]
  refine wpAny_bind (ksk_fold (fun i s' => ∃ (Hc : Hp) (ks : List V) (kA : Array Value) (e : Nat), Inv X (pins ++ [(s.heap.objs.size + 3, seqObj "list" kA e), (s.heap.objs.size + 1, seqObj "list" #[] e1)]) σ Hc s' ∧ Same H Hc ∧ Vals ks kA.toList ∧
      EachIs (fun x b => Dp X.K Hc x (key b)) ks (bs.take i)) its 0 { s with heap := g0 } ?start ?step ?done)
  case start =>
    have I1 : Inv X pins σ H { s with heap := g0 } := I.kept (t' := s.toks) hk0
    have hf1 := I.hok.fresh (a := s.heap.objs.size + 1) (by omega)
    have hf3 := I.hok.fresh (a := s.heap.objs.size + 3) (by omega)
    refine ⟨H, [], #[], 0, I1.pins_of fun p hp => ?_, Same.refl _, .nil, by rw [List.take_zero]; exact .nil⟩
    rcases List.mem_append.mp hp with hp | hp
    · exact I1.pin p (List.mem_append_right _ hp)
    · rcases List.mem_cons.mp hp with rfl | hp
      · exact ⟨hok, hf3, pu _ 3 nL, I.nofs (by show _ ≤ s.heap.objs.size + 3; omega), fun v => by simp [seqObj]⟩
      · rw [List.mem_singleton.mp hp]
        exact ⟨hoa, hf1, pu _ 1 nL, I.nofs (by show _ ≤ s.heap.objs.size + 1; omega), fun v => by simp [seqObj]⟩
  case step =>
    rintro j u s' hu ⟨Hc, ks, kA, e, I', sm, rk, hke⟩
    simp only [Nat.zero_add] at hke ⊢
    have hj : j < its.length := (List.getElem?_eq_some_iff.mp hu).1
    obtain ⟨b, hbj⟩ : ∃ b, bs[j]? = some b := ⟨_, List.getElem?_eq_getElem (by omega)⟩
    obtain ⟨b', hbj', x, rx, hR⟩ := each_get (each_vals rv he) hu
    obtain rfl : b' = b := by rw [hbj] at hbj'; exact (Option.some.inj hbj').symm
    have hkl : kA.size ≤ its.length := by
      have h1 : ks.length = kA.size := rk.length.trans (by simp)
      have h2 := hke.length
      rw [List.length_take] at h2
      rw [← h1, h2]
      exact Nat.le_trans (Nat.min_le_right _ _) (Nat.le_of_eq hbl.symm)
    have hsp := hkey x b' Hc sm (List.mem_of_getElem? hbj) hR
    have run := F.run X.A.in1.in1 X.stack s' Hc ⟨[u], []⟩ [u] [x] _ _ (room2 hr) I'.env0.in1.in1 (by
      have := hb s' [u] I'.kIn (by have := F.len _ _ _ _ hsp; simpa using this)
      simpa using this) (.cons rx .nil) hsp
    refine wpAny_bind (wpAny_attempt (wpAny_mono (Q := fun v s2 => EP X (pins ++ [(s.heap.objs.size + 3, seqObj "list" kA e), (s.heap.objs.size + 1, seqObj "list" #[] e1)]) σ (fun v H2 => Same Hc H2 ∧ Dp X.K H2 v (key b')) v s2) (E := fun _ _ => False) (wpAny_call (codeAny_mono run fun r s2 hq => ?_)) (fun v s2 he => ?_) fun _ _ hF => hF.elim))
    · cases r with
      | error e => exact hq
      | ok fl =>
        cases fl with
        | ret u => exact I'.after hq
        | next => exact False.elim hq
        | brk => exact False.elim hq
        | cont => exact False.elim hq
    · obtain ⟨kv, H2, I2, rkv, sm2, hd⟩ := he
      have pk := I2.pin (s.heap.objs.size + 3, seqObj "list" kA e) (List.mem_append_right _ (List.mem_append_right _ (.head _)))
      have pa := I2.pin (s.heap.objs.size + 1, seqObj "list" #[] e1) (List.mem_append_right _ (List.mem_append_right _ (.tail _ (.head _))))
      have s1 := Heap.SameBut.update s2.heap (s.heap.objs.size + 3) (Obj.mapSeq (·.push v))
      obtain ⟨c2, hc2⟩ : ∃ c2, (s2.heap.update (s.heap.objs.size + 3) (Obj.mapSeq (·.push v))).get? (s.heap.objs.size + 3) = some (seqObj "list" (kA.push v) c2) := ⟨_, get?_update_seq pk.1 (·.push v)⟩
      have I3 : Inv X pins σ H2 s2 := I2.pins_of fun p hp => I2.pin p (List.mem_append_right _ (List.mem_append_left _ hp))
      have I4 : Inv X pins σ H2 { s2 with heap := s2.heap.update (s.heap.objs.size + 3) (Obj.mapSeq (·.push v)), toks := s2.toks } := I3.turned (it := s.heap.objs.size + 3) (fun b o n q => (s1.2 b n).trans q) pk.2.1 pk.2.2.1 (.inr (le0 3)) (fun x c q => up _ 3 (nC x c q)) fun p hp => up _ 3 (nP p hp)
      try dsimp only
      refine wpAny_bind (listUpdate_at pk.1 rfl ?_ (Nat.le_trans hkl hz') (Nat.le_trans (Nat.le_of_eq (Array.size_push ..)) (Nat.succ_le_succ (Nat.le_trans hkl hz'))))
      refine wpAny_pure ⟨rfl, H2, ks ++ [kv], kA.push v, c2, I4.pins_of fun p hp => ?_, sm.trans sm2, ?_, ?_⟩
      · rcases List.mem_append.mp hp with hp | hp
        · exact I4.pin p (List.mem_append_right _ hp)
        · rcases List.mem_cons.mp hp with rfl | hp
          · exact ⟨hc2, pk.2.1, pk.2.2.1, pk.2.2.2.1, fun v => by simp [seqObj]⟩
          · rw [List.mem_singleton.mp hp]
            exact ⟨(s1.2 _ n13).trans pa.1, pa.2⟩
      · rw [Array.toList_push]
        exact rk.append (.cons rkv .nil)
      · have ek : bs.take (j + 1) = bs.take j ++ [b'] := by rw [List.take_add_one, hbj]; simp
        rw [ek]
        exact each_snocK (R := fun x b => Dp X.K H2 x (key b)) hd (each_imp (R := fun x b => Dp X.K Hc x (key b)) (fun x b q => Dp.same sm2 _ _ q) hke)
  case done =>
    rintro s' ⟨Hc, ks, kA, e, I', sm, rk, hke⟩
    have hke' : EachIs (fun x b => Dp X.K Hc x (key b)) ks bs := by
      have e3 : bs.take (0 + its.length) = bs := List.take_of_length_le (by omega)
      rw [e3] at hke
      exact hke
    have pk := I'.pin (s.heap.objs.size + 3, seqObj "list" kA e) (List.mem_append_right _ (List.mem_append_right _ (.head _)))
    have pa := I'.pin (s.heap.objs.size + 1, seqObj "list" #[] e1) (List.mem_append_right _ (List.mem_append_right _ (.tail _ (.head _))))
    have hsz : kA.size = its.length := by
      have h1 : ks.length = kA.size := rk.length.trans (by simp)
      have h2 := hke'.length
      exact h1.symm.trans (h2.trans hbl.symm)
    have rd := each_reads I' rk hke'
    try dsimp only
    refine wpAny_bind (listItems_at pk.1 rfl ?_)
    have SA : SortsAt X.prog X.w X.A.in1.in1 s' (dataKind s'.heap (bs.map key)) kA.toList := SortsAt.data rd hk.al hk.so fun d hd => by
      have h1 := hk.dp d hd
      have h2 := hr.un
      simp only [units_in1]
      omega
    obtain ⟨m, Fr0⟩ := I'.fr
    have hiB : ∀ i : Nat, X.base.get? (s.heap.objs.size + i) = none := fun i => by
      cases q : X.base.get? (s.heap.objs.size + i) with
      | none => rfl
      | some o =>
        exact absurd (Nat.lt_of_le_of_lt (Nat.le_add_right _ _) (Heap.lt_size (I.bk _ o q))) (Nat.lt_irrefl _)
    let rs := (allNews X.base s'.heap X.env.locals).filter fun p => decide (p.1 ≠ s.heap.objs.size + 3 ∧ p.1 ≠ s.heap.objs.size + 1)
    have hrs : ∀ p ∈ rs, p.1 ≠ s.heap.objs.size + 3 ∧ p.1 ≠ s.heap.objs.size + 1 := fun p hp => of_decide_eq_true (List.mem_filter.mp hp).2
    have N0 : News X.base X.env.locals s'.heap (rs ++ [(s.heap.objs.size + 3, seqObj "list" kA e), (s.heap.objs.size + 1, seqObj "list" #[] e1)]) := fun p hp => by
      rcases List.mem_append.mp hp with hp | hp
      · exact news_all p (List.mem_filter.mp hp).1
      · rcases List.mem_cons.mp hp with rfl | hp
        · exact ⟨pk.1, pk.2.2.1, hiB 3⟩
        · rw [List.mem_singleton.mp hp]
          exact ⟨pa.1, pa.2.2.1, hiB 1⟩
    refine key_end (κ := dataKind s'.heap (bs.map key)) Fr0 N0 n31 (fun p hp => (hrs p hp).1) (fun p hp => (hrs p hp).2) SA hsz hz' fun h' tk ep F' N' => ⟨rfl, ?_⟩
    have kp : ∀ c o, c ≠ X.env.locals → c ≠ s.heap.objs.size + 3 → c ≠ s.heap.objs.size + 1 → s'.heap.get? c = some o → h'.get? c = some o := fun c o n0 n1 n2 q => by
      cases z : X.base.get? c with
      | some u =>
        have := I'.bk c u z
        rw [q] at this
        cases this
        exact F'.keep c _ z
      | none => exact (N' (c, o) (List.mem_cons_of_mem _ (List.mem_filter.mpr ⟨mem_allNews n0 z q, decide_eq_true ⟨n1, n2⟩⟩))).1
    have ha' := (N' _ List.mem_cons_self).1
    have out := sortVals_each (κ := dataKind s'.heap (bs.map key)) (rev := false) (fun b => keyToks (key b)) (each_vals rv he) (each_of_map key (each_keys hk.al rd))
    obtain ⟨ys, ry, hy⟩ := vals_each out
    have hlen : ys.length ≤ sizeLine := by
      rw [ry.length, sortVals_length false (by rw [Array.length_toList]; exact hsz)]
      exact hz'
    have I3 : Inv X pins σ Hc s' := I'.pins_of fun p hp => I'.pin p (List.mem_append_right _ (List.mem_append_left _ hp))
    have fin : Inv X pins σ (upd Hc (s.heap.objs.size + 1) (.lst ys)) { s' with heap := h', gens := s'.gens, drawn := s'.drawn, toks := tk } := by
      have hna : Hc (s.heap.objs.size + 1) = none := pa.2.1
      have hnk : Hc (s.heap.objs.size + 3) = none := pk.2.1
      refine I3.step (ch := [s.heap.objs.size + 3, s.heap.objs.size + 1]) (fun b hb => ?_) (fun b o nl _ hc q _ => kp b o nl (fun z => hc (by simp [z])) (fun z => hc (by simp [z])) q) (fun b o nl _ hc q _ => ⟨o.slots, kp b o nl (fun z => hc (by simp [z])) (fun z => hc (by simp [z])) q⟩)
        (fun b o hc q n => ?_) (fun b o hc q => ?_) (fun b xs q => by rw [upd_ne (ne_of_none q hna)]; exact q) (fun b o u q => by rw [upd_ne (ne_of_none q hna)]; exact q) (fun b ps q => ⟨#[], by rw [upd_ne (ne_of_none q hna), q]; simp⟩) (fun m hm => ?_) (fun b u q => ?_) I3.bare
      · have : b = s.heap.objs.size + 3 ∨ b = s.heap.objs.size + 1 := by simpa using hb
        rcases this with rfl | rfl
        · exact ⟨.inr (le0 3), pu _ 3 nL, fun x c q => up _ 3 (nC x c q), fun p hp => up _ 3 (nP p hp)⟩
        · exact ⟨.inr (le0 1), pu _ 1 nL, fun x c q => up _ 1 (nC x c q), fun p hp => up _ 1 (nP p hp)⟩
      · rw [upd_ne (fun z => hc (by simp [z]))]
        exact n
      · by_cases hbl : b = X.env.locals
        · obtain ⟨o', _, _, ho', _⟩ := F'.ns
          exact ⟨o', by rw [hbl]; exact ho'⟩
        · exact ⟨o, kp b o hbl (fun z => hc (by simp [z])) (fun z => hc (by simp [z])) q⟩
      · rw [nsOne hm Fr0.ns]
        exact F'.ns
      · by_cases hba : b = s.heap.objs.size + 1
        · subst hba
          rw [upd_same] at q
          cases q
          exact ⟨hlen, _, ep, ry, ha'⟩
        · rw [upd_ne hba] at q
          refine (I3.hok b u q).stay (fun c v hc r => kp c v ?_ ?_ ?_ r) (fun c r => by rw [upd_ne (ne_of_none r hna)]; exact r) fun c xs r => by rw [upd_ne (ne_of_none r hna)]; exact r
          · rcases hc with z | z
            · rw [z]; exact ne_of_none q I3.free
            · exact ne_of_none z I3.free
          · rcases hc with z | z
            · rw [z]; exact ne_of_none q hnk
            · exact ne_of_none z hnk
          · rcases hc with z | z
            · rw [z]; exact hba
            · exact ne_of_none z hna
    exact ⟨.ref _, _, fin, rfl, q ys _ _ hy (I.hok.fresh (by omega)) upd_same fun b o z => by rw [upd_ne (ne_of_none (sm b o z) pa.2.1)]; exact sm b o z⟩
end
end Rs

/-! Further readings: zip of tuples, comprehensions that make dicts, locks, sorting. -/
namespace Rw
open PySem PySem.Spec PyProof.Rows L2 Rd
variable {X : Cx} {D : Ends} {σ : L2.St} {H : Hp} {K : PySem.W.Frag}
theorem walk_zipT {a b : Addr} {xs ys : List V} {n : Nat} (hn : n = min xs.length ys.length) : Walk (RZ.ItzT K a b) n (fun H => SqT K H a xs ∧ SqT K H b ys) (YPair (fun i => xs[i]?) (fun i => ys[i]?)) := by
  subst hn
  refine ⟨fun i H hi q => ⟨xs, ys, xs[i]'(by omega), ys[i]'(by omega), q.1, q.2, List.getElem?_eq_getElem _, List.getElem?_eq_getElem _⟩, fun H q => ⟨xs, ys, q.1, q.2, by omega⟩, ?_⟩
  rintro i H v H' _ q ⟨T, x, y, h1, h2, h3, h4, h5⟩
  exact ⟨T, x, y, h1, h2, h3, h4 xs q.1, h5 ys q.2⟩
theorem zipH {ta : TA} {R : It → Hp → Prop} (h : ta σ H fun vs H1 => ∃ a b xs ys, vs = [.ref a, .ref b] ∧ ((SqL K H1 a xs ∧ SqL K H1 b ys ∧ R (Itz K a b) H1) ∨ (SqT K H1 a xs ∧ SqT K H1 b ys ∧ R (RZ.ItzT K a b) H1))) : RZ.iZipA K ta σ H R := h
theorem zipT {a b : Addr} {xs ys : List V} {P Q : Addr → Addr → Prop} (h1 : SqT K H a xs) (h2 : SqT K H b ys) (h : Q a b) : ∃ a' b' xs ys, [V.ref a, V.ref b] = [.ref a', .ref b'] ∧ ((SqL K H a' xs ∧ SqL K H b' ys ∧ P a' b') ∨ (SqT K H a' xs ∧ SqT K H b' ys ∧ Q a' b')) :=
  ⟨a, b, xs, ys, rfl, .inr ⟨h1, h2, h⟩⟩
theorem slT {a : Addr} {xs : List V} {lo hi : Option Int} {Q : VK} (hp : SqT K H a xs) (hw : ¬ (HT.sIx xs.length 0 lo = 0 ∧ HT.sIx xs.length xs.length hi = xs.length)) (h : NewQ (.tup (cutV xs lo hi)) Q H) : rSlT K (.ref a) lo hi H Q := ⟨a, xs, rfl, hp, hw, h⟩
theorem sl1 {a : Addr} {xs : List V} {Q : VK} (hp : SqT K H a xs) (n0 : xs ≠ []) (h : NewQ (.tup xs.tail) Q H) : rSlT K (.ref a) (some 1) none H Q := by
  have l : 1 ≤ xs.length := Nat.one_le_iff_ne_zero.mpr fun e => n0 (List.eq_nil_of_length_eq_zero e)
  have e1 : HT.sIx xs.length 0 (some ((1 : Nat) : Int)) = 1 := by rw [HT.sIx_nat]; omega
  refine slT hp (fun ⟨e, _⟩ => ?_) ?_
  · have e' : HT.sIx xs.length 0 (some ((1 : Nat) : Int)) = 0 := e
    omega
  · have e : cutV xs (some 1) none = xs.tail := by
      show (xs.drop (HT.sIx xs.length 0 (some ((1 : Nat) : Int)))).take (xs.length - HT.sIx xs.length 0 (some ((1 : Nat) : Int))) = xs.tail
      rw [e1, List.drop_one]
      exact List.take_of_length_le (by rw [List.length_tail]; exact Nat.le_refl _)
    rw [e]
    exact h
/-! ### locks -/
def LkE (t : TE) (d : Addr) (u : HO) (σ : L2.St) (H : Hp) (Q : VK) : Prop := ∀ od, t σ (upd H d (.frz od u)) fun v H' => H' d = some (.frz od u) ∧ Q v (upd H' d u)
theorem lockE {t : TE} {d : Addr} {u : HO} {Q : VK} (e : H d = some u) (m : Mut (some u)) (h : ∀ (od : Obj) (G : Hp), G d = some (.frz od u) → (∀ b, b ≠ d → G b = H b) → t σ G fun v H' => H' d = some (.frz od u) ∧ Q v (upd H' d u)) : tLockE t σ H Q :=
  ⟨d, u, e, m, fun od => h od _ upd_same fun b hb => upd_ne hb⟩
theorem itemsH {td : TE} {R : It → Hp → Prop} (h : td σ H fun x H1 => ∃ d o kvs, x = .ref d ∧ H1 d = some (.frz o (.dK kvs)) ∧ R (Iti d o kvs) H1) : iItems td σ H R := h
theorem itemsX {d : Addr} {od : Obj} {kvs : List (Key × V)} {P : Addr → Obj → List (Key × V) → Prop} (e : H d = some (.frz od (.dK kvs))) (h : P d od kvs) : ∃ d' o kvs, V.ref d = .ref d' ∧ H d' = some (.frz o (.dK kvs)) ∧ P d' o kvs := ⟨d, od, kvs, rfl, e, h⟩
theorem keysH {td : TE} {R : It → Hp → Prop} (h : td σ H fun x H1 => ∃ d o, x = .ref d ∧ ((∃ kvs, H1 d = some (.frz o (.dK kvs)) ∧ R (Itk d o kvs) H1) ∨ ∃ kvs, H1 d = some (.frz o (.dT kvs)) ∧ R (Itkt d o kvs) H1)) : iKeys td σ H R := h
theorem keysX {d : Addr} {od : Obj} {kvs : List (Key × V)} {P : Addr → Obj → List (Key × V) → Prop} {P' : Addr → Obj → List (List Key × V) → Prop} (e : H d = some (.frz od (.dK kvs))) (h : P d od kvs) : ∃ d' o, V.ref d = .ref d' ∧ ((∃ kvs, H d' = some (.frz o (.dK kvs)) ∧ P d' o kvs) ∨ ∃ kvs, H d' = some (.frz o (.dT kvs)) ∧ P' d' o kvs) := ⟨d, od, rfl, .inl ⟨kvs, e, h⟩⟩
/-! ### dict comprehensions -/
section
variable {X : Cx}
theorem ps_setDc {i : Nat} {y : Str} {py : Pos} {kx vx tg iter : Expr} {ifs : List Expr} {scope : Scope} {own : List (Str × Nat)} {pos spos : Pos} {wi : TI} {g : TG} {tt : TT} {tk tv : TE} (hc : X.calm = true) (hN : X.N.Nodup) (hy : X.N[i]? = some y) (hyl : X.env.scope.names.lookup y = some .local)
    (hsw : swapsWith (.DictComp kx vx [⟨tg, iter, ifs, 0⟩] scope pos) (some (.Name y py)) spos.line X.env = pure true) (hi : PI X tg iter wi) (ok : BlkOk X.N X.env.scope scope own)
    (hg : ∀ (s : Shared) (H : Hp) (C : Addr) (cl : List (Str × Addr)) (fp : List Addr), PG (X.blk s H scope (compEnvC scope cl C X.env) fp) tg g)
    (ht : ∀ (s : Shared) (H : Hp) (C : Addr) (cl : List (Str × Addr)) (fp : List Addr), PTs (X.blk s H scope (compEnvC scope cl C X.env) fp) ifs tt)
    (hk : ∀ (s : Shared) (H : Hp) (C : Addr) (cl : List (Str × Addr)) (fp : List Addr), PE (X.blk s H scope (compEnvC scope cl C X.env) fp) kx tk)
    (he : ∀ (s : Shared) (H : Hp) (C : Addr) (cl : List (Str × Addr)) (fp : List Addr), PE (X.blk s H scope (compEnvC scope cl C X.env) fp) vx tv) (hs : ∀ x, foldedSetIterable iter X.env x = pure x := by intro _; rfl) :
    PS X (.Assign [.Name y py] (.DictComp kx vx [⟨tg, iter, ifs, 0⟩] scope pos) spos) (tAsg (tDc wi g tt tk tv (own.map (·.2))) (gName i)) := by
  refine ⟨fun pins s σ H D I h => ?_⟩
  have h' : tDc wi g tt tk tv (own.map (·.2)) σ H (fun x H1 => gName i x σ H1 D.nx) := h
  rw [exec_Assign_Name_used _ _ _ _ hsw]
  refine wpAny_bind (wpAny_standAt (wpAny_bind ?_))
  show wpAny _ _ (comprehension (.DictComp kx vx [⟨tg, iter, ifs, 0⟩] scope pos) scope X.env (firstIterPos [⟨tg, iter, ifs, 0⟩] pos) newDict false (eval iter X.env) (some (assign (.Name y py) X.env)) >>= fun _ => pure ()) _ _ s
  refine wpAny_bind (thn (dc_core (use := some (assign (.Name y py) X.env)) (Qf := fun _ s' => SP X pins D .next s') hc hN I hi ok hg ht hk he hs h' fun L C s1 m H1 I1 q hn f => ?_) fun _ s2 hq => wpAny_pure (wpAny_pure hq))
  refine (wpAny_assign_Name (store_ok2 (v := V.ref L) I1 hN hy (.inl hyl) rfl (fun s2 I2 w => ?_) (.inr hyl)) : wpAny _ _ (assign (.Name y py) X.env (.ref L)) _ _ _)
  obtain ⟨b, sb, hb⟩ := w
  obtain ⟨f0, f1, f2, f3, f4, f5⟩ := f
  have ne : C ≠ b := hb.elim (fun z => z ▸ f1) fun z e => f4 y b z e.symm
  exact ⟨m, hn.sameBut sb ne, fun h3 sb3 => ⟨_, H1, I2.turned (t' := s2.toks) (fun c o n e => (sb3.2 c n).trans e) f0 f1 f3 f4 f5, q⟩⟩
theorem sw_dc {kx vx : Expr} {gs : List Comprehension} {scope : Scope} {pos py : Pos} {y : Str} {l : Nat} {env : Env} (hk : env.scope.kind = .function) (hy : env.scope.names.lookup y = some .local) (hl : (py.line == pos.line) = true)
    (ha : (scope.names.any fun (n, k) => n == y && (k == .local || k == .cell)) = false) : swapsWith (.DictComp kx vx gs scope pos) (some (.Name y py)) l env = pure true := by
  have k1 : env.kindOf y = some .local := hy
  have k2 : env.blockKind = .function := by unfold Env.blockKind; rw [hk]; rfl
  unfold swapsWith
  simp only [k2, k1, ha, Expr.pos, hl]
  rfl
end
def Dc (J : It) (g : TG) (tt : TT) (tk tv : TE) (vs : List Nat) (σ : L2.St) (H1 : Hp) (Q : VK) : Prop := ∀ D, H1 D = none → ∃ W : Nat → Nat → Hp → Prop, (∃ m, W 0 m (upd H1 D (.dK []))) ∧ ∀ i m H, W i m H →
  (J.stop i H ∧ Q (.ref D) H) ∨ (J.go i H ∧ ∃ Nx : Hp → Prop, (∀ H', Nx H' → ∃ m', m' < m ∧ W (i + 1) m' H') ∧ ∀ x H', J.yld i H x H' → g x (wipe σ vs) H' fun σ2 H2 => wipe σ2 vs = wipe σ vs ∧ tt σ2 H2 fun b H3 =>
    if b = true then tk σ2 H3 fun y H4 => tv σ2 H4 fun z H5 => ∃ kvs k, y = kV k ∧ H5 D = some (.dK kvs) ∧ kvs.length < sizeLine ∧ Nx (upd H5 D (.dK (putK kvs k z))) else Nx H3)
theorem dc {wi : TI} {g : TG} {tt : TT} {tk tv : TE} {vs : List Nat} {Q : VK} (h : wi σ H fun J H1 => Dc J g tt tk tv vs σ H1 Q) : tDc wi g tt tk tv vs σ H Q := h
def DcPut (D : Addr) (H1 : Hp) (R : Nat → List (Key × V) → Hp → Prop) (i : Nat) (y z : V) (H5 : Hp) : Prop := ∃ kvs k, y = kV k ∧ H5 D = some (.dK kvs) ∧ kvs.length < sizeLine ∧ ∃ kvs', upd H5 D (.dK (putK kvs k z)) D = some (.dK kvs') ∧ Same H1 (upd H5 D (.dK (putK kvs k z))) ∧ R (i + 1) kvs' (upd H5 D (.dK (putK kvs k z)))
def DcNo (D : Addr) (H1 : Hp) (R : Nat → List (Key × V) → Hp → Prop) (i : Nat) (H3 : Hp) : Prop := ∃ kvs', H3 D = some (.dK kvs') ∧ Same H1 H3 ∧ R (i + 1) kvs' H3
theorem dcPut {D : Addr} {H1 H5 : Hp} {R : Nat → List (Key × V) → Hp → Prop} {i : Nat} {k : Key} {z : V} {kvs : List (Key × V)} (hD : H5 D = some (.dK kvs)) (nD : H1 D = none) (s : Same H1 H5) (hz : kvs.length < sizeLine) (r : ∀ G : Hp, G D = some (.dK (putK kvs k z)) → (∀ b, b ≠ D → G b = H5 b) → R (i + 1) (putK kvs k z) G) : DcPut D H1 R i (kV k) z H5 :=
  ⟨kvs, k, rfl, hD, hz, _, upd_same, fun b o e => by rw [upd_ne (ne_of_none e nD)]; exact s b o e, r _ upd_same fun b hb => upd_ne hb⟩
theorem dcS {J : It} {n : Nat} {G : Hp → Prop} {Y : Nat → Hp → V → Hp → Prop} (w : Walk J n G Y) {g : TG} {tt : TT} {tk tv : TE} {vs : List Nat} {H1 : Hp} {Q : VK} (hG : ∀ H, Same H1 H → G H) (R : Addr → Nat → List (Key × V) → Hp → Prop)
    (r0 : ∀ (D : Addr) (G : Hp), H1 D = none → G D = some (.dK []) → Same H1 G → R D 0 [] G)
    (hs : ∀ (D : Addr) i x H H' kvs, H1 D = none → i < n → H D = some (.dK kvs) → Same H1 H → R D i kvs H → Y i H x H' → g x (wipe σ vs) H' fun σ2 H2 => wipe σ2 vs = wipe σ vs ∧ tt σ2 H2 fun b H3 =>
      if b = true then tk σ2 H3 fun y H4 => tv σ2 H4 fun z H5 => DcPut D H1 (R D) i y z H5 else DcNo D H1 (R D) i H3)
    (hd : ∀ (D : Addr) kvs H, H1 D = none → H D = some (.dK kvs) → Same H1 H → R D n kvs H → Q (.ref D) H) : Dc J g tt tk tv vs σ H1 Q := fun D nD => by
  refine ⟨fun i m H => m = n - i ∧ i ≤ n ∧ ∃ kvs, H D = some (.dK kvs) ∧ Same H1 H ∧ R D i kvs H, ⟨n, by simp, Nat.zero_le _, [], upd_same, same_upd nD, r0 D _ nD upd_same (same_upd nD)⟩, ?_⟩
  rintro i m H ⟨rfl, hi, kvs, h1, h2, h3⟩
  have q := hG H h2
  by_cases hlt : i < n
  · refine .inr ⟨w.goes i H hlt q, fun H => ∃ kvs, H D = some (.dK kvs) ∧ Same H1 H ∧ R D (i + 1) kvs H, fun H' p' => ⟨n - (i + 1), by omega, rfl, hlt, p'⟩, fun x H' y => ?_⟩
    exact hs D i x H H' kvs nD hlt h1 h2 h3 (w.yields i H x H' hlt q y)
  · have e : i = n := by omega
    subst e
    exact .inl ⟨w.stops H q, hd D kvs H nD h1 h2 h3⟩
/-! ### sorted -/
theorem sortD {β : Type} {a : Addr} {xs : List V} {bs : List β} {Q : VK} (k : β → PyData) (R : V → β → Prop) (hs : SqL K H a xs) (he : PySem.W.EachIs (fun x b => Dp K H x (k b) ∧ R x b) xs bs) (hk : Rs.Keys (bs.map k))
    (h : ∀ (out : List V) (p : Addr) (G : Hp), PySem.W.EachIs (fun x b => Dp K H x (k b) ∧ R x b) out (bs.mergeSort (PySem.W.dataLe false k)) → H p = none → G p = some (.lst out) → Same H G → Q (.ref p) G) : Rs.rSortD K [.ref a] H Q :=
  ⟨a, xs, β, bs, k, R, rfl, hs, he, hk, h⟩
def SortK (f : Addr) (sp : Sp) (K : PySem.W.Frag) (vs zs : List V) (H : Hp) (Q : VK) : Prop := Rs.rSortK f sp K vs zs H Q
theorem ckw {r : List V → List V → Hp → VK → Prop} {t tk : TA} {Q : VK} (h : t σ H fun vs H1 => tk σ H1 fun zs H2 => r vs zs H2 Q) : tCKw r t tk σ H Q := h
theorem sortK {β : Type} {f : Addr} {sp : Sp} {a : Addr} {xs : List V} {bs : List β} {Q : VK} (k : β → PyData) (R : V → β → Prop) (hs : SqL K H a xs) (he : PySem.W.EachIs R xs bs) (hk : Rs.Keys (bs.map k))
    (hf : ∀ x b H1, Same H H1 → b ∈ bs → R x b → sp [x] H1 (fun v H2 => Same H1 H2 ∧ Dp K H2 v (k b)) (fun _ _ _ => False))
    (h : ∀ (out : List V) (p : Addr) (G : Hp), PySem.W.EachIs R out (bs.mergeSort (PySem.W.dataLe false k)) → H p = none → G p = some (.lst out) → Same H G → Q (.ref p) G) : Rs.rSortK f sp K [.ref a] [.ref f] H Q :=
  ⟨a, xs, β, bs, k, R, rfl, rfl, hs, he, hk, hf, h⟩
def DClr : V → List V → Hp → VK → Prop := rDClear
theorem clr {a : Addr} {kvs : List (Key × V)} {Q : VK} (e : H a = some (.dK kvs)) (h : ∀ G : Hp, G a = some (.dK []) → (∀ b, b ≠ a → G b = H b) → Q .non G) : rDClear (.ref a) [] H Q := ⟨a, kvs, rfl, rfl, e, h _ upd_same fun b hb => upd_ne hb⟩
end Rw
namespace Rd
open PySem PySem.Spec PyProof.Rows L2
variable {σ : L2.St} {H : Hp} {K : PySem.W.Frag}
theorem notT {ta : TE} {Q : VK} (h : ta σ H fun x H1 => ∃ k, TruV K x H1 k ∧ Q (.bl (!k)) H1) : tNotT K ta σ H Q := h
theorem yes {c A B : Prop} {i : Decidable c} (h : c) (a : A) : @ite Prop c i A B := by rw [if_pos h]; exact a
theorem no {c A B : Prop} {i : Decidable c} (h : ¬ c) (a : B) : @ite Prop c i A B := by rw [if_neg h]; exact a
theorem ifX {x : V} {i : Decidable (x = V.non)} {A B : Prop} (n : x ≠ .non) (h : B) : @ite Prop (x = V.non) i A B := by rw [if_neg n]; exact h
theorem ifR {a : Addr} {i : Decidable (V.ref a = V.non)} {A B : Prop} (h : B) : @ite Prop (V.ref a = V.non) i A B := ifX (by intro e; cases e) h
theorem ifI {a : Int} {i : Decidable (V.int a = V.non)} {A B : Prop} (h : B) : @ite Prop (V.int a = V.non) i A B := ifX (by intro e; cases e) h
theorem ifT {a : Str} {i : Decidable (V.str a = V.non)} {A B : Prop} (h : B) : @ite Prop (V.str a = V.non) i A B := ifX (by intro e; cases e) h
theorem ifN {i : Decidable (V.non = V.non)} {A B : Prop} (h : A) : @ite Prop (V.non = V.non) i A B := by rw [if_pos rfl]; exact h
theorem orTH {ta tb : TE} {Q : VK} (h : ta σ H fun x H1 => ∃ k, TruV K x H1 k ∧ if k = true then Q x H1 else tb σ H1 Q) : tOrT K ta tb σ H Q := h
end Rd

/-! len(set(t)) of a tuple of ints. -/
namespace Rv
open PySem PySem.Spec PyProof.Rows L2
def tLenSetT (K : PySem.W.Frag) (ta : TE) : TE := fun σ H Q => ta σ H fun x H1 => ∃ (l : Addr) (ns : List Int), x = .ref l ∧ SqT K H1 l (ns.map V.int) ∧ ns.length ≤ 4000 ∧ ∀ ks : List Int, ks.Nodup → (∀ k, k ∈ ks ↔ k ∈ ns) → Q (.int (ks.length : Nat)) H1
theorem lenSetT {K : PySem.W.Frag} {σ : L2.St} {H : Hp} {ta : TE} {Q : VK} (h : ta σ H fun x H1 => ∃ (l : Addr) (ns : List Int), x = .ref l ∧ SqT K H1 l (ns.map V.int) ∧ ns.length ≤ 4000 ∧ ∀ ks : List Int, ks.Nodup → (∀ k, k ∈ ks ↔ k ∈ ns) → Q (.int (ks.length : Nat)) H1) : tLenSetT K ta σ H Q := h
section
variable {X : Cx}
theorem pe_lenSetT {a : Expr} {ta : TE} {p p2 q pos : Pos} (hc : X.calm = true) (hg : Gl X "len") (hm : X.mg "len" = none) (hg2 : Gl X "set") (hm2 : X.mg "set" = none) (ha : PE X a ta)
    (na : starEach [a] X.env = (false, eval a X.env) :: starEach [] X.env := by rfl) : PE X (.Call (.Name "len" p) [.Call (.Name "set" p2) [a] [] q] [] pos) (tLenSetT X.K ta) := by
  refine ⟨fun pins s σ H Q I h => Call_ (ld_blt I hg hm boot_len (callWith_builtin1 (args_cons (Call_ (ld_blt I hg2 hm2 boot_set (callWith_type1 (args_cons (thn (ha.run pins s σ H _ I h) fun v s1 ⟨x, H1, I1, r1, q1⟩ => args_nil ?_) na) na rfl))) rfl) rfl rfl))⟩
  obtain ⟨l, ns, rfl, hq, few, q1⟩ := q1
  cases r1
  obtain ⟨its, r, pl, hz⟩ := I1.tuple hq
  refine call_set_tupI ns (I1.ok.hd hc) pl (by simpa using RZ.intsAre_vals r) (by unfold scanBound; omega) fun h' tk c hS hcn keep => ?_
  refine args_nil ?_
  obtain ⟨o, es, ep, t, ho, hex, hd, _, nd, mem, _, hf, hn, _⟩ := hS
  have I2 : Inv X pins σ H1 { s1 with heap := h', toks := tk } := I1.kept fun b o e => keep b o e
  have q2 := q1 (es.toList.map keyOf) nd fun k => by
    rw [← mem k, decide_eq_true_iff]
  rw [List.length_map, Array.length_toList] at q2
  exact call_len_set ho hex hd hf (by omega) ⟨.int es.size, H1, I2.tok _, ⟨_, rfl⟩, q2⟩
end
end Rv

/-! Things of any kind, one level deep; exceptions of the program: made, raised, caught, asked. -/
namespace Rx
open PySem PySem.Spec PyProof.Rows L2 Rd
variable {X : Cx} {D : Ends} {σ : L2.St} {H H' : Hp} {K : PySem.W.Frag}
/-! ### kinds -/
inductive Kd where
  | non | bl (b : Bool) | int (i : Int) | str (z : Str) | lst (xs : List V) | tup (xs : List V) | dct
def Kd.ty : Kd → String
  | .non => "NoneType" | .bl _ => "bool" | .int _ => "int" | .str _ => "str" | .lst _ => "list" | .tup _ => "tuple" | .dct => "dict"
/-- what stands at a value -/
inductive Is (H : Hp) : V → Kd → Prop where
  | non : Is H .non .non
  | bl (b : Bool) : Is H (.bl b) (.bl b)
  | int (i : Int) : Is H (.int i) (.int i)
  | str {z : Str} (l : z.length ≤ 1000000) : Is H (.str z) (.str z)
  | lst {a : Addr} {xs : List V} (h : H a = some (.lst xs)) (l : xs.length ≤ 1000000) : Is H (.ref a) (.lst xs)
  | tup {a : Addr} {xs : List V} (h : H a = some (.tup xs)) (l : xs.length ≤ 1000000) : Is H (.ref a) (.tup xs)
  | dct {a : Addr} {kvs : List (Key × V)} (h : H a = some (.dK kvs)) : Is H (.ref a) .dct
theorem Is.same {x : V} {k : Kd} (s : Same H H') (h : Is H x k) : Is H' x k := by
  cases h with
  | non => exact .non
  | bl b => exact .bl b
  | int i => exact .int i
  | str l => exact .str l
  | lst h l => exact .lst (s _ _ h) l
  | tup h l => exact .tup (s _ _ h) l
  | dct h => exact .dct (s _ _ h)
theorem Is.inj {x : V} {k k' : Kd} (h : Is H x k) (h' : Is H x k') : k = k' := by
  cases h <;> cases h' <;> first | rfl | (rename_i a b c d; first | (rw [a] at c; cases c; rfl) | (rw [a] at c; cases c) | (rw [a] at d; cases d) | skip) <;> simp_all
theorem Is.ty {x : V} {k : Kd} (h : Is H x k) : TyX K H x (.type k.ty) := by
  cases h with
  | non => exact .base .non
  | bl b => exact .base (.bl b)
  | int i => exact .base (.int i)
  | str l => exact .base (.str _)
  | lst h l => exact .base (.lst h)
  | tup h l => exact .base (.tup h)
  | dct h => exact .base (.dK h)
def Kd.isInt : Kd → Bool | .int _ => true | .bl _ => true | _ => false
def Kd.isBl : Kd → Bool | .bl _ => true | _ => false
def Kd.isStr : Kd → Bool | .str _ => true | _ => false
def Kd.isLst : Kd → Bool | .lst _ => true | _ => false
def Kd.isTup : Kd → Bool | .tup _ => true | _ => false
def Kd.isDct : Kd → Bool | .dct => true | _ => false
def Kd.isSeq : Kd → Bool | .lst _ => true | .tup _ => true | _ => false
/-- an integer and no flag -/
def Kd.isNum : Kd → Bool | .int _ => true | _ => false
theorem kdInt : ∀ k : Kd, kitB k.ty "int" = some k.isInt
  | .non => (by decide +kernel : kitB "NoneType" "int" = some false)
  | .bl _ => (by decide +kernel : kitB "bool" "int" = some true)
  | .int _ => (by decide +kernel : kitB "int" "int" = some true)
  | .str _ => (by decide +kernel : kitB "str" "int" = some false)
  | .lst _ => (by decide +kernel : kitB "list" "int" = some false)
  | .tup _ => (by decide +kernel : kitB "tuple" "int" = some false)
  | .dct => (by decide +kernel : kitB "dict" "int" = some false)
theorem kdBl : ∀ k : Kd, kitB k.ty "bool" = some k.isBl
  | .non => (by decide +kernel : kitB "NoneType" "bool" = some false)
  | .bl _ => (by decide +kernel : kitB "bool" "bool" = some true)
  | .int _ => (by decide +kernel : kitB "int" "bool" = some false)
  | .str _ => (by decide +kernel : kitB "str" "bool" = some false)
  | .lst _ => (by decide +kernel : kitB "list" "bool" = some false)
  | .tup _ => (by decide +kernel : kitB "tuple" "bool" = some false)
  | .dct => (by decide +kernel : kitB "dict" "bool" = some false)
theorem kdStr : ∀ k : Kd, kitB k.ty "str" = some k.isStr
  | .non => (by decide +kernel : kitB "NoneType" "str" = some false)
  | .bl _ => (by decide +kernel : kitB "bool" "str" = some false)
  | .int _ => (by decide +kernel : kitB "int" "str" = some false)
  | .str _ => (by decide +kernel : kitB "str" "str" = some true)
  | .lst _ => (by decide +kernel : kitB "list" "str" = some false)
  | .tup _ => (by decide +kernel : kitB "tuple" "str" = some false)
  | .dct => (by decide +kernel : kitB "dict" "str" = some false)
theorem kdLst : ∀ k : Kd, kitB k.ty "list" = some k.isLst
  | .non => (by decide +kernel : kitB "NoneType" "list" = some false)
  | .bl _ => (by decide +kernel : kitB "bool" "list" = some false)
  | .int _ => (by decide +kernel : kitB "int" "list" = some false)
  | .str _ => (by decide +kernel : kitB "str" "list" = some false)
  | .lst _ => (by decide +kernel : kitB "list" "list" = some true)
  | .tup _ => (by decide +kernel : kitB "tuple" "list" = some false)
  | .dct => (by decide +kernel : kitB "dict" "list" = some false)
theorem kdTup : ∀ k : Kd, kitB k.ty "tuple" = some k.isTup
  | .non => (by decide +kernel : kitB "NoneType" "tuple" = some false)
  | .bl _ => (by decide +kernel : kitB "bool" "tuple" = some false)
  | .int _ => (by decide +kernel : kitB "int" "tuple" = some false)
  | .str _ => (by decide +kernel : kitB "str" "tuple" = some false)
  | .lst _ => (by decide +kernel : kitB "list" "tuple" = some false)
  | .tup _ => (by decide +kernel : kitB "tuple" "tuple" = some true)
  | .dct => (by decide +kernel : kitB "dict" "tuple" = some false)
theorem kdDct : ∀ k : Kd, kitB k.ty "dict" = some k.isDct
  | .non => (by decide +kernel : kitB "NoneType" "dict" = some false)
  | .bl _ => (by decide +kernel : kitB "bool" "dict" = some false)
  | .int _ => (by decide +kernel : kitB "int" "dict" = some false)
  | .str _ => (by decide +kernel : kitB "str" "dict" = some false)
  | .lst _ => (by decide +kernel : kitB "list" "dict" = some false)
  | .tup _ => (by decide +kernel : kitB "tuple" "dict" = some false)
  | .dct => (by decide +kernel : kitB "dict" "dict" = some true)
theorem askInt {x : V} {k : Kd} {Q : VK} (h : Is H x k) (q : Q (.bl k.isInt) H) : rIsi K [x, .ty "int"] H Q := Rd.isi h.ty (kdInt k) q
theorem askBl {x : V} {k : Kd} {Q : VK} (h : Is H x k) (q : Q (.bl k.isBl) H) : rIsi K [x, .ty "bool"] H Q := Rd.isi h.ty (kdBl k) q
theorem askStr {x : V} {k : Kd} {Q : VK} (h : Is H x k) (q : Q (.bl k.isStr) H) : rIsi K [x, .ty "str"] H Q := Rd.isi h.ty (kdStr k) q
theorem askLst {x : V} {k : Kd} {Q : VK} (h : Is H x k) (q : Q (.bl k.isLst) H) : rIsi K [x, .ty "list"] H Q := Rd.isi h.ty (kdLst k) q
theorem askTup {x : V} {k : Kd} {Q : VK} (h : Is H x k) (q : Q (.bl k.isTup) H) : rIsi K [x, .ty "tuple"] H Q := Rd.isi h.ty (kdTup k) q
theorem askDct {x : V} {k : Kd} {Q : VK} (h : Is H x k) (q : Q (.bl k.isDct) H) : rIsi K [x, .ty "dict"] H Q := Rd.isi h.ty (kdDct k) q
/-- (list, tuple) was just laid at tp -/
theorem askSeq {x : V} {k : Kd} {tp : Addr} {Q : VK} (ht : H tp = some (.tup [.ty "list", .ty "tuple"])) (h : Is H x k) (q : Q (.bl k.isSeq) H) : rIsiT K [x, .ref tp] H Q := by
  refine ⟨_, tp, _, _, [.type "list", .type "tuple"], k.isSeq, rfl, ht, .cons (.ty _) (.cons (.ty _) .nil), h.ty, ?_, q⟩
  have e1 := kdLst k
  have e2 := kdTup k
  refine kitAny_cons (kit_ty e1) (fun z1 => kitAny_cons (kit_ty e2) (fun z2 => ?_) fun z => ?_) fun z => ?_
  · rw [kitAny_nil]
    cases k <;> first | rfl | (cases z1; done) | (cases z2; done)
  · cases k <;> first | rfl | cases z
  · cases k <;> first | rfl | cases z
/-! ### equal without a look inside -/
/-- the one is the other, or both are equal data -/
def EqI (K : PySem.W.Frag) (H : Hp) (x y : V) : Prop := (x = y ∧ flatB x = true) ∨ (∃ a, x = .ref a ∧ y = .ref a) ∨ ∃ d e, Dp K H x d ∧ Dp K H y e ∧ SeqAt.shaped d = true ∧ SeqAt.shaped e = true ∧ PyData.eqv d e = true
theorem eqI_run {pins : List (Addr × Obj)} {s : Shared} (I : Inv X pins σ H s) {A : Around} (hu : A.units + 64 < cLine) {x y : V} {v u : Value} (h : EqI X.K H x y) (rx : RelV x v) (ry : RelV y u) : SeqAt.EqAt A s v u true := by
  rcases h with ⟨rfl, f⟩ | ⟨a, rfl, rfl⟩ | ⟨d, e, hd, he, sd, se, q⟩
  · exact eqAt_same rx ry f
  · cases (show v = Value.ref a from rx)
    cases (show u = Value.ref a from ry)
    exact SeqAt.EqAt.same _
  · obtain ⟨as, r1⟩ := Dp.reads I d x v hd rx
    obtain ⟨bs, r2⟩ := Dp.reads I e y u he ry
    have z := SeqAt.eqAt_reads d e A s v u as bs r1 r2 (SeqAt.canLay_of_shaped sd) (SeqAt.canLay_of_shaped se) (SeqAt.room_of_shaped sd hu)
    rw [q] at z
    exact z
theorem eqIs_run {pins : List (Addr × Obj)} {s : Shared} (I : Inv X pins σ H s) {A : Around} (hu : A.units + 64 < cLine) {xs ys : List V} (hp : Paired (EqI X.K H) xs ys) :
    ∀ {us ws : List Value}, Vals xs us → Vals ys ws → ∀ j (h1 : j < us.length) (h2 : j < ws.length), SeqAt.EqAt A s us[j] ws[j] true := by
  induction hp with
  | nil =>
    intro us ws r1 r2 j h1 h2
    cases r1
    exact absurd h1 (Nat.not_lt_zero j)
  | cons h _ k =>
    intro us ws r1 r2 j h1 h2
    cases r1 with
    | cons a1 b1 =>
      cases r2 with
      | cons a2 b2 =>
        cases j with
        | zero => exact eqI_run I hu h a1 a2
        | succ j => exact k b1 b2 j (Nat.lt_of_succ_lt_succ h1) (Nat.lt_of_succ_lt_succ h2)
/-- two tuples whose items are equal -/
def TupEq (K : PySem.W.Frag) (H : Hp) (x y : V) : Prop := ∃ a b xs ys, x = .ref a ∧ y = .ref b ∧ SqT K H a xs ∧ SqT K H b ys ∧ Paired (EqI K H) xs ys
def rEqX (K : PySem.W.Frag) : R2 := fun x y H Q => TupEq K H x y ∧ Q (.bl true) H
def rNeX (K : PySem.W.Frag) : R2 := fun x y H Q => TupEq K H x y ∧ Q (.bl false) H
theorem op_neX (hu : X.A.units + 66 < cLine) : OpR X (compareOp .NotEq) (rNeX X.K) := by
  intro pins s σ H x y v u Q I rx ry h
  obtain ⟨⟨a, b, xs, ys, rfl, rfl, ha, hb, hp⟩, q⟩ := h
  cases (show v = Value.ref a from rx)
  cases (show u = Value.ref b from ry)
  obtain ⟨us, r1, p1⟩ := I.tuple ha
  obtain ⟨ws, r2, p2⟩ := I.tuple hb
  have hsz : us.toArray.size = ws.toArray.size := by
    rw [List.size_toArray, List.size_toArray, ← r1.length, ← r2.length]
    exact Paired.length hp
  refine SeqAt.RcNeAt.tuples (e := fun _ => true) p1.1 p2.1 (by omega) (fun j h1 h2 => ?_) X.prog X.w _ _ ?_
  · have k := eqIs_run I (A := X.A.in1) (by show X.A.units + 1 + 64 < cLine; omega) hp r1 r2 j (by simpa using h1) (by simpa using h2)
    simpa using k
  · rw [show ((List.range (min us.toArray.size ws.toArray.size)).all fun _ => true) = true from List.all_eq_true.mpr fun _ _ => rfl, hsz]
    exact ⟨.bl false, H, I, by simp [L2.RelV], q⟩
theorem op_eqX (hu : X.A.units + 66 < cLine) : OpR X (compareOp .Eq) (rEqX X.K) := by
  intro pins s σ H x y v u Q I rx ry h
  obtain ⟨⟨a, b, xs, ys, rfl, rfl, ha, hb, hp⟩, q⟩ := h
  cases (show v = Value.ref a from rx)
  cases (show u = Value.ref b from ry)
  obtain ⟨us, r1, p1⟩ := I.tuple ha
  obtain ⟨ws, r2, p2⟩ := I.tuple hb
  have hsz : us.toArray.size = ws.toArray.size := by
    rw [List.size_toArray, List.size_toArray, ← r1.length, ← r2.length]
    exact Paired.length hp
  refine SeqAt.RcAt.tuples (e := fun _ => true) p1.1 p2.1 (by omega) (fun j h1 h2 => ?_) X.prog X.w _ _ ?_
  · have k := eqIs_run I (A := X.A.in1) (by show X.A.units + 1 + 64 < cLine; omega) hp r1 r2 j (by simpa using h1) (by simpa using h2)
    simpa using k
  · rw [show ((List.range (min us.toArray.size ws.toArray.size)).all fun _ => true) = true from List.all_eq_true.mpr fun _ _ => rfl, hsz]
    exact ⟨.bl true, H, I, by simp [L2.RelV], q⟩
end Rx
namespace Rx
open PySem PySem.Spec PyProof.Rows L2 Rd
/-! ### classes of exceptions, their __init__(self, value) at fI -/
structure ExcF (K : PySem.W.Frag) (fI C : Addr) : Prop where
  ox : OexC K C
  is : ExcC K C
  iC : PySem.W.findIn K (.ref C) "__init__" = some (some (.ref fI))
  nv : PySem.W.findIn K (.ref C) "value" = some none
  cl : PySem.W.isClsIn K C = true
  self : PySem.W.subIn K (.ref C) (.ref C) = some true
section
variable {K : PySem.W.Frag} {fI C E : Addr} {b : Bool}
theorem kitC (FE : ExcF K fI E) (h : PySem.W.subIn K (.ref C) (.ref E) = some b) : PySem.W.kitCls K (.ref C) (.ref E) = some b := by
  have h2 : (PySem.W.clsIn K E).isSome = true := FE.cl
  have e2 : ((PySem.W.clsIn K E).isSome && PySem.W.typeIn K (.ref E) == some (.type "type")) = true := by
    rw [h2, FE.ox.tyC] <;> rfl
  show (if ((PySem.W.clsIn K E).isSome && PySem.W.typeIn K (.ref E) == some (.type "type")) = true then PySem.W.subIn K (.ref C) (.ref E) else none) = some b
  rw [if_pos e2]
  exact h
theorem kit (FC : ExcF K fI C) (FE : ExcF K fI E) (h : PySem.W.subIn K (.ref C) (.ref E) = some b) : PySem.W.kitOne K (.ref C) (.ref E) = some b := by
  unfold PySem.W.kitOne
  by_cases c : C = E
  · subst c
    rw [FC.self] at h
    cases h
    rw [if_pos (beq_self_eq_true _)]
  · rw [if_neg (fun z => c (by simpa using z))]
    exact kitC FE h
theorem exm (FE : ExcF K fI E) (h : PySem.W.subIn K (.ref C) (.ref E) = some b) : PySem.W.exmOne K (.ref C) (.ref E) = some b := by
  have e1 : (PySem.W.subIn K (.ref E) (.type "BaseException") == some true) = true := by rw [FE.is.hs] <;> rfl
  show (if (PySem.W.subIn K (.ref E) (.type "BaseException") == some true) = true then PySem.W.kitCls K (.ref C) (.ref E) else none) = some b
  rw [if_pos e1]
  exact kitC FE h
end
/-! ### monotone readings -/
def tMono (te : TE) : TE := fun σ H Q => ∃ Q0 : VK, te σ H Q0 ∧ ∀ v H1, Q0 v H1 → Q v H1
theorem pe_mono {X : Cx} {e : Expr} {te : TE} (he : PE X e te) : PE X e (tMono te) := ⟨fun pins s σ H Q I h => by
  obtain ⟨Q0, h, imp⟩ := h
  exact thn (he.run pins s σ H Q0 I h) fun u s1 ⟨v, H1, I1, r1, q⟩ => ⟨v, H1, I1, r1, imp v H1 q⟩⟩
/-! ### raise C(e) -/
/-- self.value = value -/
def spWe (K : PySem.W.Frag) : Sp := fun vs H Q _ => ∃ (a C : Addr) (v : V), vs = [.ref a, v] ∧ OexC K C ∧ PySem.W.findIn K (.ref C) "value" = some none ∧ H a = some (exo a C none) ∧
  ∀ dx, H dx = none → dx ≠ a → Q .non (upd (upd H dx (exd dx [("value", v)])) a (exo a C (some dx)))
/-- behind: the exception's dict d is new and holds v -/
def RaiseQ (C : Addr) (v : V) (H1 : Hp) (Q : XK) : Prop := ∀ (d : Addr) (H2 : Hp), H1 d = none → H2 d = some (.xd [("value", v)]) → (∀ b, b ≠ d → H2 b = H1 b) → Q (.ref C) (some d) H2
def tRaise (C : Addr) (W : WX) (te : TE) : TS := fun _ σ H => te σ H fun v H1 => RaiseQ C v H1 fun cls d H2 => W cls d σ H2
theorem raiseH {C : Addr} {W : WX} {te : TE} {D : Ends} {σ : L2.St} {H : Hp} (h : te σ H fun v H1 => RaiseQ C v H1 fun cls d H2 => W cls d σ H2) : tRaise C W te D σ H := h
/-- what a raised exception leaves: all as it was, and its value in its dict -/
def Raised (C : Addr) (v : V) (H : Hp) (E : XK) : Prop := ∀ (d : Addr) (H2 : Hp), H d = none → H2 d = some (.xd [("value", v)]) → Same H H2 → E (.ref C) (some d) H2
theorem Raised.now {C : Addr} {v : V} {H H1 : Hp} {E : XK} (r : Raised C v H E) (s : Same H H1) : RaiseQ C v H1 E := fun d H2 n e k =>
  r d H2 (s.free n) e fun b o q => (k b (ne_of_none (s _ _ q) n)).trans (s _ _ q)
theorem mk_reads {K : PySem.W.Frag} {fI C : Addr} {te : TE} {σ : L2.St} {H : Hp} {Q : XK} (F : ExcF K fI C) (h : te σ H fun v H1 => RaiseQ C v H1 Q) : tMkO C (spWe K) [] (tCons (tMono te) tNil) σ H Q := by
  refine ⟨_, h, fun v H1 hv => ?_⟩
  refine ⟨(by decide : 1 ≤ 1000), fun a na => ⟨a, C, v, rfl, F.ox, F.nv, upd_same, fun dx ndx ne => ⟨rfl, dx, [("value", v)], upd_same, ?_, ?_, ?_⟩⟩⟩
  · rw [upd_ne ne, upd_same]
  · rw [upd_ne ne] at ndx
    exact ndx
  · rw [upd_ne ne] at ndx
    refine hv dx _ ndx upd_same fun b hb => ?_
    rw [upd_ne hb]
    by_cases c : b = a
    · rw [c, del_same, na]
    · rw [del_ne c, upd_ne c, upd_ne hb, upd_ne c]
section
variable {X : Cx} {x : Str} {e : Expr} {te : TE} {p pos pos2 : Pos} {C fI : Addr} {k : Nat} {fd : FuncData} {W : WX}
theorem ps_raise1 (hc : X.calm = true) (F : ExcF X.K fI C) (tI : PySem.W.typeIn X.K (.ref fI) = some (.type "function")) (F1 : FnOk X.prog X.w X.K X.mg X.base CX0 k fI fd ["self", "value"] (spWe X.K)) (hr : Room (k + 1) X.A) (hb : Binds X.K fd ["self", "value"] [])
    (hg : Gl X x) (hm : X.mg x = some (.ref C)) (tk : Takes X W) (he : PE X e te) (hdb : (x == ("__debug__" : Str)) = false := by decide) (hs : starEach (e :: []) X.env = (false, eval e X.env) :: starEach [] X.env := by rfl) (hpl : (backTo pos (starEach [] X.env)).any (·.1) = false := by rfl) :
    PS X (.Raise (some (.Call (.Name x p) [e] [] pos)) none pos2) (tRaise C W te) :=
  have z := ps_raise (pos := pos2) hc tk (pmk_oex (p := p) (pos := pos) F.ox F.iC tI F1 hr hb .nil (CX := CX0) (fun _ _ _ _ _ _ _ h => h.elim) hg hm (pa_cons (pe_mono he) pa_nil hs) hdb hs hpl)
  ⟨fun pins s σ H D I h => z.run pins s σ H D I (mk_reads F h)⟩
end
/-! ### what is asked of a caught exception -/
def rIsX (K : PySem.W.Frag) (a : Addr) (cls : Value) (d : Option Addr) : List V → Hp → VK → Prop := fun xs H Q => ∃ (D dd : Addr) (fs : List (Str × V)) (c : V) (cv : Value) (b : Bool), cls = .ref D ∧ d = some dd ∧ ExcC K D ∧ H dd = some (.xd fs) ∧ xs = [.ref a, c] ∧
  ClsV c cv ∧ PySem.W.kitOne K (.ref D) cv = some b ∧ Q (.bl b) H
end Rx
namespace PySem.W
open PySem PySem.Spec PySem.Calls PyProof.Rows
section
variable {prog : Program} {w : World} {A : Around} {E : Value → Shared → Prop} {s : Shared} {K : Frag} {x D : Addr} {ox : Obj} {od : Option Obj}
theorem findObj_dataX {C : Addr} {name : Str} {a g : Value} (hc : (clsIn K C).isSome = true) (ha : findIn K (.ref C) name = some (some a)) (hg : specialIn K a "__get__" = some (some g)) (ht : takesIn K a = some true) : findObj K C od name = some (.bind g a) := by
  obtain ⟨cd, hc⟩ := Option.isSome_iff_exists.mp hc
  unfold findObj
  rw [hc, Option.bind_some, ha, Option.bind_some]
  simp [hg, ht]
theorem kin_classX {Q : Option Value → Shared → Prop} (hga : findIn K (.ref D) "__getattribute__" = some (some (.builtin "BaseException.__getattribute__"))) (hgt : findIn K (.ref D) "__getattr__" = some none) (hsub : subIn K (.ref D) (.type "BaseException") = some true)
    (hdct : hasDictIn K D = true) (ha : findIn K (.ref D) "__class__" = some (some (.builtin "object.__class__")))
    (hn : specialIn K (.builtin "object.__class__") "__get__" = some (some (.builtin "getset_descriptor.__get__"))) (htk : takesIn K (.builtin "object.__class__") = some true) (hm : mroIn K D (.type "object") = some true)
    (X : K.In s.heap) (I : InstAt s.heap x ox D od) (h : Q (some (.ref D)) { s with toks := s.toks + 1 }) : wpAny (model prog w) A (getAttr? (.ref x) "__class__") Q E s := by
  have hf : findObj K D od "__class__" = some (.bind (.builtin "getset_descriptor.__get__") (.builtin "object.__class__")) := findObj_dataX (by obtain ⟨cd, hc, _⟩ := any_some hdct; rw [hc]; rfl) ha hn htk
  obtain ⟨hp, g, d, t, os⟩ := s
  have L0 := I.type (M := model prog w)
  have L1 := looks_findIn (M := model prog w) X hga
  have L2 := looks_findIn (M := model prog w) X hgt
  have L3 := looks_find (M := model prog w) X I hf
  have sub : Looks (model prog w) hp (isInstance (.ref x) (.type "BaseException")) true := L0.andThen (looks_subIn X hsub)
  have hx0 : (false && onTheHeap (Value.builtin "BaseException.__getattribute__")) = false := rfl
  have hx2 : (Value.builtin "BaseException.__getattribute__" == Value.builtin "object.__getattribute__") = false := by decide +kernel
  have hx1 : (onTheHeap (Value.ref D) && Value.builtin "BaseException.__getattribute__" == Value.builtin "object.__getattribute__") = false := by rw [hx2]; rfl
  unfold getAttr? getAttrBy? getAttrBy
  refine wpAny_bind (wpAny_mkText (wpAny_bind (wpAny_attempt (wpAny_holding (wpAny_bind (L0.at (wpAny_bind (L1.at ?_))))))))
  show wpAny _ _ (if (onTheHeap (Value.ref D) && Value.builtin "BaseException.__getattribute__" == Value.builtin "object.__getattribute__") = true then _ else _) _ _ _
  rw [hx1, if_neg Bool.false_ne_true]
  unfold getAttrByItsOwn hookBefore
  refine wpAny_bind ?_
  rw [if_pos (show onTheHeap (Value.ref D) = true from rfl)]
  refine L2.at ?_
  refine wpAny_bind (wpAny_attempt (wpAny_holding ?_))
  unfold callGetattribute
  rw [hx0, if_neg Bool.false_ne_true]
  unfold boundAndCalled
  rw [PySem.F.excAttr_ValueError.ga.bind (.ref x)]
  refine wpAny_bind (wpAny_pure ?_)
  show wpAny _ _ (call (.builtin "BaseException.__getattribute__") [.ref x, .str "__class__" t]) _ _ _
  refine wpAny_call (codeAny_call_builtin PySem.F.excAttr_ValueError.ga.plain PySem.F.entry_bexc_ga ?_)
  refine @check_slot (model prog w) _ _ ⟨hp, g, d, t + 1, os⟩ "BaseException.__getattribute__" "BaseException" "__getattribute__" (.ref x) [.str "__class__" t] [] _ (by decide +kernel) (by decide +kernel) sub (PySem.F.args_bexc_ga (.ref x) (.str "__class__" t)) ?_
  unfold Builtin.«object.__getattribute__»
  refine wpAny_bind (wpAny_of_eq (a := ((Value.ref x : Value), [Value.str "__class__" t])) (by first | rfl | (simp only [slotArgs]; rfl)) ?_)
  refine wpAny_bind (wpAny_pure (wpAny_bind (L0.at (wpAny_bind (L3.at ?_)))))
  show wpAny _ _ (holding [Value.builtin "object.__class__"] (call (.builtin "getset_descriptor.__get__") [.builtin "object.__class__", .ref x, .ref D]) >>= ret) _ _ _
  refine wpAny_bind (wpAny_holding (wpAny_call (class_get (s := ⟨hp, g, d, t + 1, os⟩) (ox := ox) (od := od) X I hm ?_)))
  refine wpAny_pure ?_
  show wpAny _ _ (handedOut (.ref D)) _ _ _
  rw [handedOut_of (v := .ref D) rfl]
  first
    | exact wpAny_pure (wpAny_pure h)
    | exact wpAny_pure h
    | exact wpAny_pure (wpAny_bind (wpAny_pure (wpAny_pure h)))
theorem kitx_excX (hga : findIn K (.ref D) "__getattribute__" = some (some (.builtin "BaseException.__getattribute__"))) (hgt : findIn K (.ref D) "__getattr__" = some none) (hsub : subIn K (.ref D) (.type "BaseException") = some true) (hdct : hasDictIn K D = true) (ha : findIn K (.ref D) "__class__" = some (some (.builtin "object.__class__")))
    (hn : specialIn K (.builtin "object.__class__") "__get__" = some (some (.builtin "getset_descriptor.__get__"))) (htk : takesIn K (.builtin "object.__class__") = some true) (hm : mroIn K D (.type "object") = some true) :
    KitX K (.ref x) (.ref D) (fun h => InstAt h x ox D od) where
  ty := fun _ _ _ I => I.type
  it := fun _ _ X _ => by
    obtain ⟨cdD, hcD, _⟩ := any_some hdct
    unfold clsIn at hcD
    split at hcD
    · rename_i c' d' cd' sl' ho
      intro A' Q' E' s' k q
      unfold isType loadHead
      exact wpAny_bind (wpAny_loadPart (k _ _ (X _ _ ho)) (wpAny_pure q))
    · cases hcD
  ne := fun h tp dd its n sl X htp => by
    obtain ⟨cdD, hcD, _⟩ := any_some hdct
    refine Bool.eq_false_iff.mpr fun q => ?_
    have e : D = tp := Value.ref.inj (beq_iff_eq.mp q)
    subst e
    unfold clsIn at hcD
    split at hcD
    · rename_i c' d' cd' sl' ho
      have z := (X _ _ ho).symm.trans htp
      cases z
    · cases hcD
  ca := fun X I k => kin_classX hga hgt hsub hdct ha hn htk hm X I k
end
end PySem.W
namespace Rx
open PySem PySem.Spec PyProof.Rows L2 Rd
theorem call_isX {X : Cx} {a : Addr} {oe : Obj} {cls : Value} {d : Option Addr} {pn : List (Addr × Obj)} (hz : Zc cls d oe) (hf : ∃ vs, oe.data = .fields vs) : CallR (X.suite a ((a, oe) :: pn)) (.builtin "isinstance") (rIsX X.K a cls d) := by
  intro pins s σ H xs us Q I r h
  obtain ⟨D, dd, fs, c, cv, b, rfl, rfl, C, hd, rfl, hcv, e, q⟩ := h
  obtain ⟨u1, u2, rfl, r1, r2⟩ := vals2 r
  cases (show u1 = Value.ref a from r1)
  have ec := hcv.eq r2
  subst ec
  obtain ⟨hget, _⟩ := I.pin (a, oe) (List.mem_append.mpr (.inl List.mem_cons_self))
  obtain ⟨vs, hv⟩ := hf
  have hx : ObjOk X.prog X.w H s.heap dd (.xd fs) := I.hok dd _ hd
  obtain ⟨mA, hns, hr⟩ := hx
  obtain ⟨od, ho, hl⟩ := lookIn_ns hns
  have J : PySem.W.InstAt s.heap a oe D (some od) := ⟨hget, hz.1, by unfold PySem.W.notCls; rw [hv] <;> rfl, by rw [hz.2]; exact ho⟩
  exact PySem.W.kia_one (PySem.W.kitx_excX C.hg C.hk C.hs C.hd C.ha C.hn C.ht C.hm) I.kIn J e (fun z => nomatch z) fun tk => ⟨.bl b, H, I.kept (t' := tk) fun _ _ z => z, rfl, q⟩
theorem isX {K : PySem.W.Frag} {a fI C E dd : Addr} {b : Bool} {fs : List (Str × V)} {H : Hp} {Q : VK} (FC : ExcF K fI C) (FE : ExcF K fI E) (h : PySem.W.subIn K (.ref C) (.ref E) = some b) (hd : H dd = some (.xd fs)) (q : Q (.bl b) H) : rIsX K a (.ref C) (some dd) [.ref a, .ref E] H Q :=
  ⟨C, dd, fs, _, _, b, rfl, rfl, FC.is, hd, rfl, .own E, kit FC FE h, q⟩
/-- e.value -/
def XvG (K : PySem.W.Frag) (a : Addr) (cls : Value) (d : Option Addr) (n : Str) : V → Hp → VK → Prop := fun x H1 Q => x = .ref a ∧ ∃ (C dd : Addr) (fs : List (Str × V)) (v : V), cls = .ref C ∧ d = some dd ∧ ExcC K C ∧ PySem.W.findIn K (.ref C) n = some none ∧ H1 dd = some (.xd fs) ∧ fs.lookup n = some v ∧ Q v H1
def tXv (K : PySem.W.Frag) (a : Addr) (cls : Value) (d : Option Addr) (n : Str) (te : TE) : TE := fun σ H Q => te σ H fun x H1 => XvG K a cls d n x H1 Q
theorem pe_xv {X : Cx} {a : Addr} {oe : Obj} {cls : Value} {d : Option Addr} {pn : List (Addr × Obj)} {e : Expr} {te : TE} {pos : Pos} {n : Str} (hz : Zc cls d oe) (hf : ∃ vs, oe.data = .fields vs) (he : PE (X.suite a ((a, oe) :: pn)) e te)
    (hb : attributeBase e n X.env (eval e X.env) = eval e X.env := by rfl) : PE (X.suite a ((a, oe) :: pn)) (.Attribute e n pos) (tXv X.K a cls d n te) := by
  refine ⟨fun pins s σ H Q I h => ?_⟩
  refine attr_of hb (thn (he.run pins s σ H _ I h) fun u s1 hh => ?_)
  obtain ⟨x, H1, I1, rx, ex, C, dd, fs, v, ec, ed, T, hno, ea, l, q⟩ := hh
  subst ex
  obtain rfl : u = Value.ref a := rx
  subst ec
  subst ed
  obtain ⟨ha, _⟩ := I1.pin (a, oe) (List.mem_append_left _ List.mem_cons_self)
  obtain ⟨vs, hd⟩ := hf
  have hx : ObjOk X.prog X.w H1 s1.heap dd (.xd fs) := I1.hok dd _ ea
  obtain ⟨mA, hns, hr⟩ := hx
  obtain ⟨od, ho, hl⟩ := lookIn_ns hns
  obtain ⟨u, hu, ru⟩ := RelO.some_of (v := v) (o := mA n) (by rw [← l]; exact hr n)
  have J : PySem.W.InstAt s1.heap a oe C (some od) := ⟨ha, hz.1, by unfold PySem.W.notCls; rw [hd] <;> rfl, by rw [hz.2]; exact ho⟩
  exact HandSPX.exc_get I1.kIn J T.hg T.hk T.hs (PySem.W.findObj_own T.hd hno rfl (by rw [hl, hu])) (handed_of ru) ⟨v, H1, I1.tok _, ru, q⟩
theorem xvH {K : PySem.W.Frag} {a : Addr} {cls : Value} {d : Option Addr} {n : Str} {te : TE} {σ : L2.St} {H : Hp} {Q : VK} (h : te σ H fun x H1 => XvG K a cls d n x H1 Q) : tXv K a cls d n te σ H Q := h
theorem xv {K : PySem.W.Frag} {a fI C dd : Addr} {v : V} {H : Hp} {Q : VK} (F : ExcF K fI C) (hd : H dd = some (.xd [("value", v)])) (q : Q v H) : XvG K a (.ref C) (some dd) "value" (.ref a) H Q :=
  ⟨rfl, C, dd, _, v, rfl, rfl, F.is, F.nv, hd, by simp [List.lookup], q⟩
/-- the clause names the class that it is -/
theorem caught {K : PySem.W.Frag} {fI C E : Addr} {i : Nat} {ts : Addr → Value → Option Addr → TS} {Wout : WX} {D : Ends} {d : Option Addr} {σ : L2.St} {H : Hp} (FE : ExcF K fI E) (h : PySem.W.subIn K (.ref C) (.ref E) = some true)
    (q : ∀ a, H a = none → ts a (.ref C) d { nx := fun σ' H' => D.nx (σ'.set i none) H', rt := D.rt, bk := fun σ' H' => D.bk (σ'.set i none) H', ct := fun σ' H' => D.ct (σ'.set i none) H' } (σ.set i (some (.ref a))) H) : wAs K (.ref E) i ts Wout D (.ref C) d σ H :=
  ⟨true, exm FE h, fun _ a na => q a na, fun z => nomatch z⟩
theorem callS {sp : Sp} {E : L2.St → XK} {t : TA} {σ : L2.St} {H : Hp} {Q : VK} (h : t σ H fun vs H1 => sp vs H1 Q (E σ)) : tCallS sp E t σ H Q := h
end Rx
namespace Rx
open PySem PySem.Spec PyProof.Rows L2 Rd
/-- an __init__(self, value=None) called with both -/
theorem binds2 {K : PySem.W.Frag} {x qual : Str} {params : Arguments} {body : List Stmt} {scope : Scope} {f : Addr} {fd : FuncData} (F : FunD K x qual params body scope [.non] [] f fd)
    (h : ∀ (T : Addr) (kV doc pm : Value) (an : Option Addr) (cdv ct : Value) (us its : List Value), us.length = 2 → its.length = 1 →
      ∃ k, bindArgs (PySem.W.fnOf x qual params body scope (.ref T) kV doc pm an cdv ct) ⟨us, []⟩ = seqItems? (.ref T) >>= k ∧ k (some its.toArray) = pure ((["self", "value"] : List Str).zip (us ++ its.drop 1))) : Binds K fd ["self", "value"] [] := by
  obtain ⟨ds, r, b⟩ := F.binds1 (ps := ["self", "value"]) 2 1 (by simp) rfl h
  cases r
  exact b
end Rx
namespace Rx
open PySem PySem.Spec PyProof.Rows L2 Rd
theorem u66 {k : Nat} {A : Around} (h : Room k A) : A.units + 66 < cLine := by have := h.un; omega
/-! ### text * int -/
def nRepS : R2 := fun x y H Q => ∃ (z : Str) (n : Int), x = .str z ∧ y = .int n ∧ MulOk z n ∧ Q (.str (Txt.mul z n)) H
theorem o_repS {X : Cx} : OpR X (binaryOp .Mult) nRepS := by
  intro pins s σ H x y v u Q I rx ry h
  obtain ⟨z, n, rfl, rfl, hok, q⟩ := h
  obtain ⟨t, rfl⟩ := rx
  obtain ⟨t', rfl⟩ := ry
  exact SB.mul hok fun t' k => ⟨.str (Txt.mul z n), H, I.tok _, ⟨_, rfl⟩, q⟩
theorem repS {z : Str} {n : Int} {H : Hp} {Q : VK} (hok : MulOk z n) (q : Q (.str (Txt.mul z n)) H) : nRepS (.str z) (.int n) H Q := ⟨z, n, rfl, rfl, hok, q⟩
/-! ### things with their items -/
/-- what stands at a value, and at its items -/
def Rowed (H : Hp) (x : V) (k : Kd) (ks : List Kd) : Prop := Is H x k ∧ ∀ xs, k = .lst xs ∨ k = .tup xs → Paired (Is H) xs ks
theorem paired_same {H H' : Hp} (s : Same H H') {xs : List V} {ks : List Kd} (h : Paired (Is H) xs ks) : Paired (Is H') xs ks := by
  induction h with
  | nil => exact .nil
  | cons a _ ih => exact .cons (a.same s) ih
theorem Rowed.same {H H' : Hp} {x : V} {k : Kd} {ks : List Kd} (s : Same H H') (h : Rowed H x k ks) : Rowed H' x k ks := ⟨h.1.same s, fun xs e => paired_same s (h.2 xs e)⟩
/-- an address that is not t's -/
def Off (t : Addr) (x : V) : Prop := x ≠ .ref t
theorem off_ref {t a : Addr} (h : a ≠ t) : Off t (.ref a) := fun e => h (V.ref.inj e)
theorem Is.but {t : Addr} {H H' : Hp} {x : V} {k : Kd} (b : Rd.But t H H') (o : Off t x) (h : Is H x k) : Is H' x k := by
  cases h with
  | non => exact .non
  | bl b => exact .bl b
  | int i => exact .int i
  | str l => exact .str l
  | lst h l => exact .lst (b _ _ (fun e => o (by rw [e])) h) l
  | tup h l => exact .tup (b _ _ (fun e => o (by rw [e])) h) l
  | dct h => exact .dct (b _ _ (fun e => o (by rw [e])) h)
theorem paired_but {t : Addr} {H H' : Hp} (b : Rd.But t H H') {xs : List V} {ks : List Kd} (h : Paired (Is H) xs ks) : (∀ y ∈ xs, Off t y) → Paired (Is H') xs ks := by
  induction h with
  | nil => exact fun _ => .nil
  | cons a _ ih => exact fun o => .cons (a.but b (o _ (List.mem_cons_self ..))) (ih fun y m => o y (List.mem_cons_of_mem _ m))
/-- a thing of some kind, its items too; none of them is the object at t (the tape) -/
def Thing (t : Addr) (H : Hp) (x : V) : Prop := ∃ k ks, Rowed H x k ks ∧ Off t x ∧ ∀ xs, k = .lst xs ∨ k = .tup xs → ∀ y ∈ xs, Off t y
theorem Thing.same {t : Addr} {H H' : Hp} {x : V} (s : Same H H') (h : Thing t H x) : Thing t H' x := let ⟨k, ks, r, o⟩ := h; ⟨k, ks, r.same s, o⟩
theorem Thing.but {t : Addr} {H H' : Hp} {x : V} (b : Rd.But t H H') (h : Thing t H x) : Thing t H' x := let ⟨k, ks, r, o, p⟩ := h; ⟨k, ks, ⟨r.1.but b o, fun xs e => paired_but b (r.2 xs e) (p xs e)⟩, o, p⟩
theorem flat {t : Addr} {H : Hp} {x : V} {k : Kd} (h : Is H x k) (n : k.isSeq = false) (o : Off t x := by intro e; cases e) : Thing t H x := ⟨k, [], ⟨h, fun xs e => by rcases e with rfl | rfl <;> cases n⟩, o, fun xs e => by rcases e with rfl | rfl <;> cases n⟩
/-- an item -/
def Item (t : Addr) (H : Hp) (x : V) : Prop := (∃ k, Is H x k) ∧ Off t x
theorem item {t : Addr} {H : Hp} {x : V} {k : Kd} (h : Is H x k) (o : Off t x := by intro e; cases e) : Item t H x := ⟨⟨k, h⟩, o⟩
theorem Item.same {t : Addr} {H H' : Hp} {x : V} (s : Same H H') (h : Item t H x) : Item t H' x := let ⟨⟨k, i⟩, o⟩ := h; ⟨⟨k, i.same s⟩, o⟩
theorem Item.but {t : Addr} {H H' : Hp} {x : V} (b : Rd.But t H H') (h : Item t H x) : Item t H' x := let ⟨⟨k, i⟩, o⟩ := h; ⟨⟨k, i.but b o⟩, o⟩
theorem kinds {t : Addr} {H : Hp} : ∀ {xs : List V}, (∀ x ∈ xs, Item t H x) → ∃ ks, Paired (Is H) xs ks
  | [], _ => ⟨[], .nil⟩
  | x :: xs, h => let ⟨⟨k, i⟩, _⟩ := h x (List.mem_cons_self ..); let ⟨ks, r⟩ := kinds fun y m => h y (List.mem_cons_of_mem _ m); ⟨k :: ks, .cons i r⟩
theorem seqL {t : Addr} {H : Hp} {a : Addr} {xs : List V} (h : H a = some (.lst xs)) (o : a ≠ t) (l : xs.length ≤ 1000000) (i : ∀ x ∈ xs, Item t H x) : Thing t H (.ref a) :=
  let ⟨ks, r⟩ := kinds i; ⟨_, ks, ⟨.lst h l, fun ys e => by rcases e with e | e <;> cases e; exact r⟩, off_ref o, fun ys e => by rcases e with e | e <;> cases e; exact fun y m => (i y m).2⟩
theorem seqT {t : Addr} {H : Hp} {a : Addr} {xs : List V} (h : H a = some (.tup xs)) (o : a ≠ t) (l : xs.length ≤ 1000000) (i : ∀ x ∈ xs, Item t H x) : Thing t H (.ref a) :=
  let ⟨ks, r⟩ := kinds i; ⟨_, ks, ⟨.tup h l, fun ys e => by rcases e with e | e <;> cases e; exact r⟩, off_ref o, fun ys e => by rcases e with e | e <;> cases e; exact fun y m => (i y m).2⟩
theorem all_nil {P : V → Prop} : ∀ x ∈ ([] : List V), P x := fun _ h => nomatch h
theorem all_cons {P : V → Prop} {x : V} {xs : List V} (h : P x) (t : ∀ y ∈ xs, P y) : ∀ y ∈ x :: xs, P y := fun y m => by
  rcases List.mem_cons.mp m with rfl | m
  · exact h
  · exact t y m
theorem paired_get {R : V → Kd → Prop} {xs : List V} {ks : List Kd} (h : Paired R xs ks) : ∀ {i : Nat} {x : V}, xs[i]? = some x → ∃ k, ks[i]? = some k ∧ R x k := by
  induction h with
  | nil => intro i x e; simp at e
  | cons a _ ih =>
    intro i x e
    cases i with
    | zero => cases e; exact ⟨_, rfl, a⟩
    | succ i => exact ih e
/-! ### range(i, j, c) upwards -/
/-- how many -/
def cnt (i j c : Int) : Nat := if i < j then ((j - i - 1) / c + 1).toNat else 0
theorem rg_pos {i j c : Int} (c0 : 0 < c) (c1 : c < 1073741824) (hi : 0 ≤ i) (hi' : i < 2 ^ 62) (hj : 0 ≤ j) (hj' : j < 2 ^ 62) : RgC i j c (cnt i j c) := by
  have e : Builtin.Range.rangeSize i j c = (cnt i j c : Nat) := by
    unfold Builtin.Range.rangeSize cnt
    rw [if_pos c0]
    split
    · have : 0 ≤ (j - i - 1) / c := Int.ediv_nonneg (by omega) (by omega)
      omega
    · rfl
  have hb : (cnt i j c : Int) ≤ 2 ^ 62 + 1 := by
    unfold cnt
    split
    · have h1 : 0 ≤ (j - i - 1) / c := Int.ediv_nonneg (by omega) (by omega)
      have h2 : (j - i - 1) / c ≤ j - i - 1 := Int.ediv_le_self _ (by omega)
      omega
    · decide
  refine ⟨by omega, by omega, ?_, e⟩
  unfold Builtin.Range.small
  rw [e]
  simp only [Builtin.Range.rangeFitsLong, Bool.and_eq_true, Bool.or_eq_true, decide_eq_true_eq, beq_iff_eq]
  rw [if_pos c0]
  simp only [Bool.and_eq_true, decide_eq_true_eq]
  omega
theorem cnt_lt {i j c : Int} (c0 : 0 < c) (k : Nat) : k < cnt i j c ↔ i + (k : Int) * c < j := by
  unfold cnt
  split
  · rename_i h
    have h1 : 0 ≤ (j - i - 1) / c := Int.ediv_nonneg (by omega) (by omega)
    have e : k < ((j - i - 1) / c + 1).toNat ↔ (k : Int) ≤ (j - i - 1) / c := by omega
    rw [e, Int.le_ediv_iff_mul_le c0]
    omega
  · have : 0 ≤ (k : Int) * c := Int.mul_nonneg (by omega) (by omega)
    omega
theorem rng3 {ta : TA} {σ : L2.St} {H : Hp} {R : It → Hp → Prop} (h : ta σ H fun vs H1 => ∃ (i j c : Int) (n : Nat), vs = [.int i, .int j, .int c] ∧ RgC i j c n ∧ R (Itc i c n) H1) : iRng3 ta σ H R := h
end Rx
namespace Rx
open PySem PySem.Spec PyProof.Rows L2 Rd
/-! ### {k: v} written out -/
theorem disp {trs : List (TE × TE)} {σ : L2.St} {H : Hp} {Q : VK} (h : ∀ (p : Addr) (G : Hp), H p = none → G p = some (.dK []) → Same H G → tPairs trs σ G fun ps H2 => H2 p = some (.dK []) ∧ ∃ kvs : List (Key × V), ps = kvs.map (fun kv => (kV kv.1, kv.2)) ∧ kvs.length ≤ 15 ∧
    ∀ G2 : Hp, G2 p = some (.dK (mergeK [] kvs)) → (∀ b, b ≠ p → G2 b = H2 b) → Q (.ref p) G2) : tDisp trs σ H Q := fun p hp => by
  have key := h p _ hp upd_same (same_upd hp)
  have mono : ∀ {trs : List (TE × TE)} {σ : L2.St} {H : Hp} {A B : List (V × V) → Hp → Prop}, A = B → tPairs trs σ H A → tPairs trs σ H B := fun e h => e ▸ h
  refine mono ?_ key
  funext ps H2
  refine propext ⟨fun ⟨a, kvs, b, c, d⟩ => ⟨a, kvs, b, c, d _ upd_same fun b hb => upd_ne hb⟩, fun ⟨a, kvs, b, c, d⟩ => ⟨a, kvs, b, c, fun G2 g off => ?_⟩⟩
  have e : G2 = upd H2 p (.dK (mergeK [] kvs)) := by
    funext x
    by_cases q : x = p
    · rw [q, g, upd_same]
    · rw [off x q, upd_ne q]
  rw [e]
  exact d
theorem pair {tk tv : TE} {r : List (TE × TE)} {σ : L2.St} {H : Hp} {Q : List (V × V) → Hp → Prop} (h : tk σ H fun x H1 => tv σ H1 fun y H2 => tPairs r σ H2 fun ps H3 => Q ((x, y) :: ps) H3) : tPairs ((tk, tv) :: r) σ H Q := h
theorem pair0 {σ : L2.St} {H : Hp} {Q : List (V × V) → Hp → Prop} (h : Q [] H) : tPairs [] σ H Q := h
theorem same_off2 {H G G2 : Hp} {p : Addr} (s : Same H G) (np : H p = none) (off : ∀ b, b ≠ p → G2 b = G b) : Same H G2 := fun b o e => by rw [off b (ne_of_none e np)]; exact s b o e
end Rx
namespace Rx
open PySem PySem.Spec PyProof.Rows L2 Rd
theorem eqI_refl {K : PySem.W.Frag} {H : Hp} {y : V} {k : Kd} (h : Is H y k) : EqI K H y y := by
  cases h with
  | non => exact .inl ⟨rfl, rfl⟩
  | bl b => exact .inl ⟨rfl, rfl⟩
  | int i => exact .inl ⟨rfl, rfl⟩
  | str l => exact .inl ⟨rfl, rfl⟩
  | lst h l => exact .inr (.inl ⟨_, rfl, rfl⟩)
  | tup h l => exact .inr (.inl ⟨_, rfl, rfl⟩)
  | dct h => exact .inr (.inl ⟨_, rfl, rfl⟩)
end Rx

/-! The number of unlike texts: len(set(xs)) where no text stands twice. -/
namespace Re
open PySem PySem.Spec PyProof.Rows L2
section
variable {prog : Program} {w : World} {A : Around} {R : Result → Shared → Prop} {I : Addr} {fp wr : List Addr} {G : Array GenState → Array GenState → Prop} {P : Nat → Value → Prop} {St : Nat → Shared → Prop}
def Upto (xs : List Str) (i : Nat) : Str → Bool := fun y => (xs.take i).any (· == y)
theorem upto_step {xs : List Str} {i : Nat} {x : Str} (h : xs[i]? = some x) (y : Str) : (Upto xs i y || decide (y = x)) = Upto xs (i + 1) y := by
  unfold Upto
  rw [Rd.take_snoc h, List.any_append, Bool.eq_iff_iff]
  simp only [Bool.or_eq_true, decide_eq_true_eq, List.any_cons, List.any_nil, Bool.or_false, beq_iff_eq]
  exact or_congr_right eq_comm
theorem upto_new {xs : List Str} {i : Nat} {x : Str} (nd : xs.Nodup) (h : xs[i]? = some x) : Upto xs i x = false := by
  refine Bool.eq_false_iff.mpr fun q => ?_
  obtain ⟨y, m, e⟩ := List.any_eq_true.mp q
  rw [beq_iff_eq] at e
  subst e
  exact Rd.nodup_take nd h m
/-- the loop that fills a set with unlike texts -/
theorem fill {xs : List Str} (W : WalksS prog w A.in1 I fp wr G xs.length P St) (D : Addr) (out : D ∉ fp) (nd : xs.Nodup) (room : xs.length + 1 < scanBound)
    (val : ∀ i v, P i v → ∃ x t, xs[i]? = some x ∧ v = .str x t) (left : Nat) : ∀ (i : Nat) (s : Shared), xs.length - i = left → i ≤ xs.length → St i s → s.heap.SetOf (strKind prog w) D (Upto xs i) i →
      (∀ s', Moved (D :: wr) G s s' → s'.heap.SetOf (strKind prog w) D (Upto xs xs.length) xs.length → R (.ok (.ret .none)) s') → codeAny (model prog w) A (.builtin "set.update.loop" ⟨[.ref D, .ref I], []⟩) R s := by
  have more : ∀ b ∈ wr, b ∈ D :: wr := fun b h => .tail _ h
  have stay : ∀ {s s' : Shared} {i : Nat}, Moved wr G s s' → s.heap.SetOf (strKind prog w) D (Upto xs i) i → s'.heap.SetOf (strKind prog w) D (Upto xs i) i :=
    fun m ⟨o, es, ep, t, h, r⟩ => ⟨o, es, ep, t, m.heap D _ (fun z => out (W.sub _ z)) h, r⟩
  induction left with
  | zero =>
    intro i s e le st hD k
    obtain rfl : i = xs.length := by omega
    refine codeAny_builtin F.entry_set_update_loop ?_
    rw [Around.under_plainId F.plain_set_update_loop _]
    show wpAny _ A.in1 (pyNext (.ref I) >>= _) _ _ s
    exact wpAny_bind (W.done s _ _ st fun s' m => wpAny_pure (k s' (m.mono more) (stay m hD)))
  | succ left ih =>
    intro i s e le st hD k
    have lt : i < xs.length := by omega
    refine codeAny_builtin F.entry_set_update_loop ?_
    rw [Around.under_plainId F.plain_set_update_loop _]
    show wpAny _ A.in1 (pyNext (.ref I) >>= _) _ _ s
    refine wpAny_bind (W.item i s _ _ lt st fun v s' hv st' m => ?_)
    obtain ⟨x, t, hx, rfl⟩ := val i v hv
    have hD' := stay m hD
    show wpAny _ A.in1 (holding [Value.str x t] (setAdd D (.str x t)) >>= _) _ _ s'
    refine wpAny_bind (wpAny_holding ?_)
    unfold setAdd
    refine wpAny_holding (wpAny_bind ((strKind prog w).pyHash (k := x) (strKind_is _ _ _ _) ?_))
    refine wpAny_setAddHashed_of (knd := strKind prog w) (s := { s' with toks := s'.toks + 1 }) (strKind_is _ _ _ _) rfl hD' (by omega) fun h' but hN => ?_
    rw [upto_new nd hx] at hN
    refine wpAny_pure ⟨plainId_quiet F.plain_set_update_loop _, ih (i + 1) _ (by omega) lt (W.frame _ s' _ _ st' (Nat.le_succ _) fun b hb o e => ?_) (SetOf_congr hN (upto_step hx) rfl) fun s2 m2 hS2 => ?_⟩
    · rw [but.2 b fun q => out (q ▸ hb)]
      exact e
    · refine k s2 (Moved.trans W.gtrans ((m.mono more).then_heap (Nat.le_succ _) fun b o hb e => ?_) m2) hS2
      rw [but.2 b fun q => hb (q ▸ .head _)]
      exact e
end
section
variable {prog : Program} {w : World} {A : Around} {E : Value → Shared → Prop} {s : Shared}
def bareSet (led : Bool) : Obj := { cls := .type "set", dict := none, data := .set #[] 0 (.fresh 0 0 led) }
/-- what set(..) leaves -/
def Left (prog : Program) (w : World) (s : Shared) (xs : List Str) (s' : Shared) : Prop := ∃ (h' : Heap) (tk : Nat), s' = { s with heap := h', toks := tk } ∧ h'.SetOf (strKind prog w) s.heap.objs.size (Upto xs xs.length) xs.length ∧ ∀ b o, b < s.heap.objs.size → s.heap.get? b = some o → h'.get? b = some o
theorem bare_of {h : Heap} {a : Addr} {led : Bool} (e : h.get? a = some (bareSet led)) (xs : List Str) : h.SetOf (strKind prog w) a (Upto xs 0) 0 :=
  SetOf_congr ((setObjOf_fresh (knd := strKind prog w) led).setOf e (by unfold scanBound; omega)) (fun _ => rfl) rfl
/-- set.__init__ over a list of unlike texts -/
theorem fill_list {led : Bool} {l : Addr} {items : Array Value} {xs : List Str} (hh : A.handled = none) (hl : s.heap.IsList l items) (hi : StrsAre items.toList xs) (nd : xs.Nodup) (room : xs.length + 1 < scanBound) {Q : PySem.Fin → Shared → Prop}
    (h : ∀ s', Left prog w s xs s' → wpAny (model prog w) A (ret Value.none) Q E s') :
    wpAny (model prog w) A (Builtin.«set.__init__» ⟨[.ref s.heap.objs.size, .ref l], []⟩) Q E { s with heap := s.heap.push (bareSet led) } := by
  have hD : (s.heap.push (bareSet led)).get? s.heap.objs.size = some (bareSet led) := Heap.get?_push_size _ rfl
  have hT : Shared.TypeIs { s with heap := s.heap.push (bareSet led) } (.ref s.heap.objs.size) "set" := ⟨_, hD, rfl⟩
  have big : l < s.heap.objs.size := let ⟨_, e, _⟩ := hl; Heap.lt_size e
  have hl1 : (s.heap.push (bareSet led)).IsList l items := hl.push _
  obtain ⟨ol, hol, hcl, nl, hdl⟩ := hl1
  obtain ⟨ocls, odict, odata, oslots⟩ := ol
  simp only at hcl hdl
  subst hcl
  subst hdl
  have hsls := PySem.F.sub_list_set
  have hslf := PySem.F.sub_list_frozenset
  have hne : (Value.type "list" == Value.type "dict") = false := by decide
  have hl1 : (s.heap.push (bareSet led)).IsList l items := hl.push _
  unfold Builtin.«set.__init__» noKeywords Builtin.Frozenset.updateFrom
  generalize hPI : pyIter = PI
  wp_walk
  subst hPI
  have hz : (s.heap.push (bareSet led)).objs.size = s.heap.objs.size + 1 := Heap.size_push ..
  have n1 : l ≠ (s.heap.push (bareSet led)).objs.size := by rw [hz]; exact Nat.ne_of_lt (Nat.lt_succ_of_lt big)
  have sz : xs.length = items.size := by rw [← StrsAre.len_eq hi, Array.length_toList]
  have val : ∀ (i : Nat) (v : Value), items[i]? = some v → ∃ x t, xs[i]? = some x ∧ v = .str x t := fun i v hv => by
    obtain ⟨t, e⟩ := SS.strs_at hi i v (by rw [Array.getElem?_toList]; exact hv)
    have lt : i < xs.length := by rw [sz]; exact (Array.getElem?_eq_some_iff.mp hv).1
    refine ⟨xs[i], t, List.getElem?_eq_getElem lt, ?_⟩
    rw [e, List.getD_eq_getElem?_getD, List.getElem?_eq_getElem lt]
    rfl
  refine wpAny_pyIter_list hl1 (wpAny_bind (wpAny_runValue ?_))
  have hh1 : A.in1.handled = none := by simp [hh]
  have W := (Walks.list (prog := prog) (w := w) hh1 _ l n1 items).toS
  rw [← sz] at W
  refine fill W s.heap.objs.size (by rw [hz, List.mem_cons, List.mem_singleton, not_or]; exact ⟨Nat.ne_of_lt (Nat.lt_succ_self _), Nat.ne_of_gt big⟩) nd room val (xs.length - 0) 0 _ rfl (Nat.zero_le _) ⟨⟨_, Heap.get?_push_size _ rfl, rfl, rfl⟩, hl1.push _⟩ (bare_of (led := led) (Heap.get?_push_of_some _ hD) xs) ?_
  intro s' m hS'
  refine wpAny_pure (h s' ⟨s'.heap, s'.toks, ?_, hS', fun b o lt e => m.heap b o ?_ (Heap.get?_push_of_some _ (Heap.get?_push_of_some _ e))⟩)
  · obtain ⟨h', g', d', tk', os'⟩ := s'
    have e1 : g' = s.gens := m.gens
    have e2 : d' = s.drawn := m.drawn
    have e3 : os' = s.os := m.os
    rw [e1, e2, e3]
  · rw [hz, List.mem_cons, List.mem_singleton, not_or]
    exact ⟨Nat.ne_of_lt lt, Nat.ne_of_lt (Nat.lt_succ_of_lt lt)⟩
/-- set(xs) -/
theorem call_set {l : Addr} {items : Array Value} {xs : List Str} {Q : Value → Shared → Prop} (hh : A.handled = none) (hl : s.heap.IsList l items) (hi : StrsAre items.toList xs) (nd : xs.Nodup) (room : xs.length + 1 < scanBound)
    (h : ∀ s', Left prog w s xs s' → Q (.ref s.heap.objs.size) s') : wpAny (model prog w) A (call (.type "set") [.ref l]) Q E s := by
  obtain ⟨c, tl, hmro⟩ := PySem.F.called_set.mro
  have hmade := PySem.F.called_set.made
  have hsub := PySem.F.called_set.sub
  refine wpAny_call (codeAny_of_tree ?_)
  show wpAny _ _ (callAny (.type "set") _) _ _ _
  refine wpAny_pure ⟨Code.quiet_builtin _ (by decide +kernel), codeAny_builtin PySem.F.entry_type_call ?_⟩
  rw [Around.under_plain (weight_type_call_type "set" [.ref l] []) rfl]
  have h1 := PySem.F.called_set.notType
  have h2 := PySem.F.called_set.canCreate
  have hct := PySem.F.typeCall_set_1 (.ref l)
  repeat (any_goals (first | assumption | wp_step))
  refine codeAny_mono (code_set_new_1 (.ref l) (E := E) (Q₁ := fun y s1 => ∃ led : Bool, y = .ref s.heap.objs.size ∧ s1 = { s with heap := s.heap.push (bareSet led) }) fun led => ⟨led, rfl, rfl⟩) fun r s1 hr => ?_
  match r, hr with
  | .ok (.ret y), ⟨led, hy, hs⟩ =>
    subst hy
    subst hs
    have hD : (s.heap.push (bareSet led)).get? s.heap.objs.size = some (bareSet led) := Heap.get?_push_size _ rfl
    have hT : Shared.TypeIs { s with heap := s.heap.push (bareSet led) } (.ref s.heap.objs.size) "set" := ⟨_, hD, rfl⟩
    have hli := PySem.F.called_set.init.lookup
    have hbi := PySem.F.called_set.init.bind (.ref s.heap.objs.size)
    repeat (any_goals (first | assumption | wp_step))
    refine codeAny_mono (codeAny_call_builtin (R := wants (fun r s2 => r = .none ∧ Left prog w s xs s2) E) PySem.F.called_set.init.plain PySem.F.entry_set_init (check_set_init_1 hT ?_)) fun r2 s2 hr2 => ?_
    · refine fill_list (by simp [hh]) hl hi nd room fun s' hL => ?_
      exact wpAny_pure ⟨rfl, hL⟩
    · match r2, hr2 with
      | .ok (.ret v), ⟨hv, hL⟩ =>
        subst hv
        repeat (any_goals (first | assumption | wp_step))
        exact h _ hL
      | .error e, q => exact q
  | .error e, q => exact q
/-- len(set(xs)), no text of xs twice -/
def tLenSet (K : PySem.W.Frag) (ta : TE) : TE := fun σ H Q => ta σ H fun x H1 => ∃ (l : Addr) (xs : List Str), x = .ref l ∧ SqL K H1 l (xs.map V.str) ∧ xs.Nodup ∧ xs.length ≤ 1000 ∧ Q (.int xs.length) H1
theorem lenSet {K : PySem.W.Frag} {σ : L2.St} {H : Hp} {ta : TE} {Q : VK} (h : ta σ H fun x H1 => ∃ (l : Addr) (xs : List Str), x = .ref l ∧ SqL K H1 l (xs.map V.str) ∧ xs.Nodup ∧ xs.length ≤ 1000 ∧ Q (.int xs.length) H1) : tLenSet K ta σ H Q := h
end
section
variable {X : Cx}
theorem pe_lenSet {a : Expr} {ta : TE} {p p2 q pos : Pos} (hc : X.calm = true) (hg : Gl X "len") (hm : X.mg "len" = none) (hg2 : Gl X "set") (hm2 : X.mg "set" = none) (ha : PE X a ta)
    (na : starEach [a] X.env = (false, eval a X.env) :: starEach [] X.env := by rfl) : PE X (.Call (.Name "len" p) [.Call (.Name "set" p2) [a] [] q] [] pos) (tLenSet X.K ta) := by
  refine ⟨fun pins s σ H Q I h => Call_ (ld_blt I hg hm boot_len (callWith_builtin1 (args_cons (Call_ (ld_blt I hg2 hm2 boot_set (callWith_type1 (args_cons (thn (ha.run pins s σ H _ I h) fun v s1 ⟨x, H1, I1, r1, q1⟩ => args_nil ?_) na) na rfl))) rfl) rfl rfl))⟩
  obtain ⟨l, xs, rfl, hq, nd, few, q1⟩ := q1
  cases r1
  obtain ⟨its, r, pl, hz⟩ := I1.list hq
  refine call_set (I1.ok.hd hc) pl.isList (by simpa using strsAre_of r) nd (by unfold scanBound; omega) ?_
  rintro _ ⟨h', tk, rfl, hS, keep⟩
  refine args_nil ?_
  obtain ⟨o, es, ep, t, ho, hex, hd, _, _, _, hf, hn⟩ := hS
  have I2 : Inv X pins σ H1 { s1 with heap := h', toks := tk } := I1.kept fun b o e => keep b o (Heap.lt_size e) e
  exact call_len_set ho hex hd hf (by rw [hn]; omega) ⟨.int xs.length, H1, I2.tok _, ⟨_, by rw [hn]⟩, q1⟩
end
/-! ### list(text) -/
theorem vals_get : ∀ {xs : List V} {us : List Value}, xs.length = us.length → (∀ (i : Nat) (x : V) (u : Value), xs[i]? = some x → us[i]? = some u → RelV x u) → Vals xs us
  | [], [], _, _ => .nil
  | x :: xs, u :: us, l, h => .cons (h 0 x u rfl rfl) (vals_get (by simpa using l) fun i y v a b => h (i + 1) y v (by simpa using a) (by simpa using b))
def Signs (z : Str) : List Str := z.cps.toList.map fun c => (⟨#[c]⟩ : Str)
def rListStr : List V → Hp → VK → Prop := fun xs H Q => ∃ z : Str, xs = [.str z] ∧ z.length ≤ sizeLine ∧ Rd.NewQ (.lst ((Signs z).map V.str)) Q H
theorem listStr {z : Str} {H : Hp} {Q : VK} (l : z.length ≤ sizeLine) (h : Rd.NewQ (.lst ((Signs z).map V.str)) Q H) : rListStr [.str z] H Q := ⟨z, rfl, l, h⟩
section
variable {X : Cx}
theorem cr_listStr (hc : X.calm = true) : CallR X (.type "list") rListStr := by
  intro pins s σ H xs us Q I r h
  obtain ⟨z, rfl, l, q⟩ := h
  cases r with
  | cons ry rt =>
    cases rt
    obtain ⟨t, rfl⟩ := ry
    refine call_list_str (I.ok.hd hc) z t (fun h' tk acc c keep e its => ?_) l
    have sz : ((Signs z).map V.str).length = acc.toList.length := by
      unfold Signs
      rw [List.length_map, List.length_map, Array.length_toList, Array.length_toList, its.1]
    have v : Vals ((Signs z).map V.str) acc.toList := vals_get sz fun i x u hx hu => by
      obtain ⟨d, k, hd, rfl⟩ := its.2 i u (by rw [← Array.getElem?_toList]; exact hu)
      unfold Signs at hx
      rw [List.getElem?_map, List.getElem?_map, Array.getElem?_toList, hd] at hx
      cases hx
      exact ⟨k, rfl⟩
    have few : ((Signs z).map V.str).length ≤ sizeLine := by
      unfold Signs
      rw [List.length_map, List.length_map]
      exact l
    exact ⟨.ref s.heap.objs.size, _, I.laid (t' := tk) keep (Nat.le_refl _) (show ObjOk X.prog X.w _ h' _ (.lst ((Signs z).map V.str)) from ⟨few, acc.toList, c, v, e⟩), rfl, q _ (I.hok.fresh (Nat.le_refl _))⟩
end
/-! ### comprehensions with two fors -/
section
variable {σ : L2.St}
def Inner (D : Addr) (H1 : Hp) (R : Nat → List V → Hp → Prop) (i : Nat) (g1 : TG) (tt1 : TT) (te : TE) (vs1 : List Nat) (σ2 : L2.St) (J1 : It) (H4 : Hp) : Prop := ∃ W1 : Nat → Nat → Hp → Prop, (∃ m, W1 0 m H4) ∧ ∀ j k H, W1 j k H →
  (J1.stop j H ∧ Rd.LcP D H1 R (i + 1) H) ∨ (J1.go j H ∧ ∃ Nx1 : Hp → Prop, (∀ H', Nx1 H' → ∃ k', k' < k ∧ W1 (j + 1) k' H') ∧ ∀ x H', J1.yld j H x H' → g1 x (wipe σ2 vs1) H' fun σ3 H5 => wipe σ3 vs1 = wipe σ2 vs1 ∧ tt1 σ3 H5 fun b H6 =>
    if b = true then te σ3 H6 fun y H7 => ∃ acc, H7 D = some (.lst acc) ∧ acc.length < sizeLine ∧ Nx1 (upd H7 D (.lst (acc ++ [y]))) else Nx1 H6)
def Lc2 (J : It) (g : TG) (tt : TT) (wi1 : TI) (g1 : TG) (tt1 : TT) (te : TE) (vs vs1 : List Nat) (σ : L2.St) (H1 : Hp) (Q : VK) : Prop := ∀ D, H1 D = none → ∃ W : Nat → Nat → Hp → Prop, (∃ m, W 0 m (upd H1 D (.lst []))) ∧ ∀ i m H, W i m H →
      (J.stop i H ∧ Q (.ref D) H) ∨ (J.go i H ∧ ∃ Nx : Hp → Prop, (∀ H', Nx H' → ∃ m', m' < m ∧ W (i + 1) m' H') ∧ ∀ x H', J.yld i H x H' → g x (wipe σ vs) H' fun σ2 H2 => wipe σ2 vs = wipe σ vs ∧ tt σ2 H2 fun b H3 =>
        if b = true then wi1 σ2 H3 fun J1 H4 => ∃ W1 : Nat → Nat → Hp → Prop, (∃ m, W1 0 m H4) ∧ ∀ j k H, W1 j k H →
          (J1.stop j H ∧ Nx H) ∨ (J1.go j H ∧ ∃ Nx1 : Hp → Prop, (∀ H', Nx1 H' → ∃ k', k' < k ∧ W1 (j + 1) k' H') ∧ ∀ x H', J1.yld j H x H' → g1 x (wipe σ2 vs1) H' fun σ3 H5 => wipe σ3 vs1 = wipe σ2 vs1 ∧ tt1 σ3 H5 fun b H6 =>
            if b = true then te σ3 H6 fun y H7 => ∃ acc, H7 D = some (.lst acc) ∧ acc.length < sizeLine ∧ Nx1 (upd H7 D (.lst (acc ++ [y]))) else Nx1 H6)
        else Nx H3)
theorem lc2S {J : It} {n : Nat} {G : Hp → Prop} {Y : Nat → Hp → V → Hp → Prop} (w : Walk J n G Y) {g : TG} {tt : TT} {wi1 : TI} {g1 : TG} {tt1 : TT} {te : TE} {vs vs1 : List Nat} {H1 : Hp} {Q : VK} (hG : ∀ H, Same H1 H → G H) (R : Addr → Nat → List V → Hp → Prop)
    (r0 : ∀ (D : Addr) (G : Hp), H1 D = none → G D = some (.lst []) → Same H1 G → R D 0 [] G)
    (hs : ∀ (D : Addr) i x H H' acc, H1 D = none → i < n → H D = some (.lst acc) → Same H1 H → R D i acc H → Y i H x H' → g x (wipe σ vs) H' fun σ2 H2 => wipe σ2 vs = wipe σ vs ∧ tt σ2 H2 fun b H3 =>
      if b = true then wi1 σ2 H3 fun J1 H4 => Inner D H1 (R D) i g1 tt1 te vs1 σ2 J1 H4 else Rd.LcP D H1 (R D) (i + 1) H3)
    (hd : ∀ (D : Addr) acc H, H1 D = none → H D = some (.lst acc) → Same H1 H → R D n acc H → Q (.ref D) H) :
    Lc2 J g tt wi1 g1 tt1 te vs vs1 σ H1 Q := by
  intro D nD
  refine ⟨fun i m H => m = n - i ∧ i ≤ n ∧ Rd.LcP D H1 (R D) i H, ⟨n, by simp, Nat.zero_le _, [], upd_same, Rd.same_upd nD, r0 D _ nD upd_same (Rd.same_upd nD)⟩, ?_⟩
  rintro i m H ⟨rfl, hi, acc, h1, h2, h3⟩
  by_cases lt : i < n
  · exact .inr ⟨w.goes i H lt (hG H h2), Rd.LcP D H1 (R D) (i + 1), fun H' p => ⟨n - (i + 1), by omega, rfl, lt, p⟩, fun x H' y => hs D i x H H' acc nD lt h1 h2 h3 (w.yields i H x H' lt (hG H h2) y)⟩
  · obtain rfl : i = n := by omega
    exact .inl ⟨w.stops H (hG H h2), hd D acc H nD h1 h2 h3⟩
theorem innerS {D : Addr} {H1 H4 : Hp} {R : Nat → List V → Hp → Prop} {i : Nat} {g1 : TG} {tt1 : TT} {te : TE} {vs1 : List Nat} {σ2 : L2.St} {J1 : It} {n : Nat} {G : Hp → Prop} {Y : Nat → Hp → V → Hp → Prop} (w : Walk J1 n G Y) (R1 : Nat → List V → Hp → Prop) (h0 : Rd.LcP D H1 R1 0 H4) (hG : ∀ H, Same H1 H → G H)
    (hs : ∀ j x H H' acc, j < n → H D = some (.lst acc) → Same H1 H → R1 j acc H → Y j H x H' → g1 x (wipe σ2 vs1) H' fun σ3 H5 => wipe σ3 vs1 = wipe σ2 vs1 ∧ tt1 σ3 H5 fun b H6 =>
      if b = true then te σ3 H6 fun y H7 => Rd.LcPush D H1 R1 j y H7 else Rd.LcP D H1 R1 (j + 1) H6)
    (hd : ∀ acc H, H D = some (.lst acc) → Same H1 H → R1 n acc H → R (i + 1) acc H) : Inner D H1 R i g1 tt1 te vs1 σ2 J1 H4 := by
  refine ⟨fun j k H => k = n - j ∧ j ≤ n ∧ Rd.LcP D H1 R1 j H, ⟨n, by simp, Nat.zero_le _, h0⟩, ?_⟩
  rintro j k H ⟨rfl, hj, acc, h1, h2, h3⟩
  by_cases lt : j < n
  · exact .inr ⟨w.goes j H lt (hG H h2), Rd.LcP D H1 R1 (j + 1), fun H' p => ⟨n - (j + 1), by omega, rfl, lt, p⟩, fun x H' y => hs j x H H' acc lt h1 h2 h3 (w.yields j H x H' lt (hG H h2) y)⟩
  · obtain rfl : j = n := by omega
    exact .inl ⟨w.stops H (hG H h2), acc, h1, h2, hd acc H h1 h2 h3⟩
theorem lc2 {wi : TI} {g : TG} {tt : TT} {wi1 : TI} {g1 : TG} {tt1 : TT} {te : TE} {vs vs1 : List Nat} {H : Hp} {Q : VK} (h : wi σ H fun J H1 => Lc2 J g tt wi1 g1 tt1 te vs vs1 σ H1 Q) : tLc2 wi g tt wi1 g1 tt1 te vs vs1 σ H Q := h
end
/-! ### text[::-1] -/
def revS (z : Str) : Str := ⟨z.cps.reverse⟩
theorem revS_list (z : Str) : (revS z).cps.toList = z.cps.toList.reverse := by
  unfold revS
  simp
theorem rev_by (z : Str) (u : Tok) : Txt.sliceBy z none none (-1, u) = revS z := by
  refine PySem.W.str_of_cps ?_
  rw [step_rev_list, revS_list]
  refine List.ext_getElem? fun i => ?_
  rw [List.getElem?_map]
  rcases Nat.lt_or_ge i z.length with h | h
  · have l : z.cps.toList.length = z.length := Array.length_toList
    rw [List.getElem?_range h, List.getElem?_reverse (by omega), l, Array.getElem?_toList]
    have h2 : z.length - 1 - i < z.cps.size := by
      show _ < z.length
      omega
    simp [Array.getD, h2]
  · have l : z.cps.toList.length = z.length := Array.length_toList
    rw [List.getElem?_eq_none (by rw [List.length_range]; exact h), List.getElem?_eq_none (by rw [List.length_reverse]; omega)]
    rfl
def tRevS (te : TE) : TE := fun σ H Q => te σ H fun x H1 => ∃ z, x = .str z ∧ z.length ≤ sizeLine ∧ Q (.str (revS z)) H1
theorem revT {σ : L2.St} {te : TE} {H : Hp} {Q : VK} (h : te σ H fun x H1 => ∃ z, x = .str z ∧ z.length ≤ sizeLine ∧ Q (.str (revS z)) H1) : tRevS te σ H Q := h
section
variable {X : Cx}
theorem pe_revS {e : Expr} {te : TE} {k : Nat} {p1 p2 p3 pos : Pos} (he : PE X e te) : PE X (.Subscript e (.Slice none none (some (.UnaryOp .USub (.Constant (.int 1) k p1) p2)) p3) pos) (tRevS te) := by
  refine ⟨fun pins s σ H Q I h => Subscript_ (thn (he.run pins s σ H _ I h) fun v s1 ⟨x, H1, I1, r1, z, ex, few, q⟩ => ?_)⟩
  subst ex
  obtain ⟨t, rfl⟩ := r1
  have minus : PO X (some (.UnaryOp .USub (.Constant (.int 1) k p1) p2)) (tPart (tUn (rU fun i => .int (-i)) (tC (.int 1)))) := po_some (pe_un un_neg pe_int)
  refine wpAny_Slice (thn (po_none.run pins s1 σ H1 (fun o H2 => o = none ∧ H2 = H1) I1 ⟨rfl, rfl⟩) fun vl s2 ⟨l, H2, I2, pl, el, e2⟩ => ?_)
  subst el e2
  refine thn (po_none.run pins s2 σ H2 (fun o H3 => o = none ∧ H3 = H2) I2 ⟨rfl, rfl⟩) fun vu s3 ⟨u, H3, I3, pu, eu, e3⟩ => ?_
  subst eu e3
  refine thn (minus.run pins s3 σ H3 (fun o H4 => o = some (-1) ∧ H4 = H3) I3 ⟨1, rfl, -1, rfl, rfl, rfl⟩) fun vs s4 ⟨o, H4, I4, ps, eo, e4⟩ => ?_
  subst eo e4
  have I5 : Inv X pins σ H4 { s4 with heap := s4.heap.push { cls := .type "slice", data := .fields #[vl, vu, vs] } } := I4.kept (t' := s4.toks) fun b ob q => Heap.get?_push_of_some _ q
  obtain ⟨a1, rfl, h1⟩ := IsPart.raw pl
  obtain ⟨a2, rfl, h2⟩ := IsPart.raw pu
  obtain ⟨a3, rfl, h3⟩ := IsPart.raw ps
  obtain rfl : a1 = none := Option.map_eq_none_iff.mp h1
  obtain rfl : a2 = none := Option.map_eq_none_iff.mp h2
  obtain ⟨⟨m, uk⟩, rfl, rfl⟩ := Option.map_eq_some_iff.mp h3
  refine tail_any (ops := [.ref s4.heap.objs.size, .str z t]) (typeIs_str _ _ _) PySem.F.slot_str_getitem.lookup (wpAny_getItem_str_slice (l := none) (u := none) (st := some (-1, uk)) ⟨_, Heap.get?_push_size _ rfl, rfl, rfl⟩ rfl (post_val_or_str ⟨?_, fun t' c => ?_⟩)) (by with_unfolding_all rfl)
  · show (Txt.sliceBy z none none (-1, uk)).length ≤ _
    rw [step_rev_len]
    exact few
  · show EP X pins σ Q (.str (Txt.sliceBy z none none (-1, uk)) t') _
    rw [rev_by]
    exact ⟨.str (revS z), H4, I5.tok _, ⟨_, rfl⟩, q⟩
end
end Re

/-! {(a, b): v, ..}: a dict written out whose keys are tuples. -/
namespace Ry
open PySem PySem.Spec PyProof.Rows L2 Rd
section
variable {X : Cx} {pins : List (Addr × Obj)} {σ : L2.St} {H : Hp} {s : Shared} {a : Addr} {A : Around} {E : Value → Shared → Prop}
/-- d[y] = v by the dict's own store, y a tuple -/
theorem dset {kvs : List (List Key × V)} {k : List Key} {b : Addr} {v : V} {r : Value} {Q : Unit → Shared → Prop} (hu : A.units + 1 < cLine) (I : Inv X pins σ H s) (e : H a = some (.dT kvs)) (eb : H b = some (.tup (k.map kV))) (l : kvs.length < sizeLine) (rv : L2.RelV v r)
    (h : ∀ s', Inv X pins σ (upd H a (.dT (putK kvs k v))) s' → Q () s') : wpAny (model X.prog X.w) A (dictSet a (.ref b) r) Q E s := by
  obtain ⟨z, hd, xs, rel, dd⟩ := dt_of I.hok e
  have hz : xs.length ≤ sizeLine := by rw [← Paired.length rel]; exact z
  have hl : (putK kvs k v).length ≤ sizeLine := by have := length_putK kvs k v; omega
  refine wpAny_dictSet_heap (hsz := hz) (show A.units < cLine by omega) (key_of I.hok eb) dd fun h' dd' hs => h _ ?_
  obtain ⟨q, es, ep, hq, h2, h3, h4, _, h5⟩ := dd'
  refine d_write I (by rw [e]; exact True.intro) hs ⟨q, hq⟩ ⟨hl, hd, _, (rel.put k eb rv).keeps fun c ys ec => ?_, q, es, ep, hq, h2, h3, h4, h5⟩
  rw [upd_ne (ne_of ec e (fun z => nomatch z))]
  exact ec
/-- what a display puts down, pair by pair -/
def putAll (kvs more : List (List Key × V)) : List (List Key × V) := more.foldl (fun acc kv => putK acc kv.1 kv.2) kvs
theorem putAll_len : ∀ (more kvs : List (List Key × V)), (putAll kvs more).length ≤ kvs.length + more.length
  | [], kvs => by show kvs.length ≤ kvs.length + 0; omega
  | p :: r, kvs => by
    have h1 := putAll_len r (putK kvs p.1 p.2)
    have h2 := length_putK kvs p.1 p.2
    show (putAll (putK kvs p.1 p.2) r).length ≤ _
    rw [List.length_cons]; omega
/-- the pairs (a tuple's address, a value) with the tuples' keys -/
def KeyAt (H : Hp) (p : V × V) (kv : List Key × V) : Prop := ∃ b, p.1 = .ref b ∧ H b = some (.tup (kv.1.map kV)) ∧ p.2 = kv.2
theorem dsets {a : Addr} : ∀ (more : List (List Key × V)) {ps : List (V × V)} {vs : List (Value × Value)} {kvs : List (List Key × V)} {H : Hp} {s : Shared} {Q : PUnit → Shared → Prop}, A.units + 1 < cLine → Inv X pins σ H s → H a = some (.dT kvs) → VV ps vs → Paired (KeyAt H) ps more →
    kvs.length + more.length ≤ 1000 → (∀ s', Inv X pins σ (upd H a (.dT (putAll kvs more))) s' → Q PUnit.unit s') →
    wpAny (model X.prog X.w) A (forIn vs PUnit.unit fun (x : Value × Value) (_ : PUnit) => (do dictSet a x.1 x.2; pure (ForInStep.yield PUnit.unit) : Sem (ForInStep PUnit))) Q E s
  | [], ps, vs, kvs, H, s, Q, hu, I, e, r, p, hl, h => by
    cases p
    cases r
    rw [List.forIn_nil]
    refine wpAny_pure (h s ?_)
    have : upd H a (.dT (putAll kvs [])) = H := by
      funext b
      by_cases c : b = a
      · rw [c, upd_same, e]; rfl
      · rw [upd_ne c]
    rw [this]
    exact I
  | kv :: more, ps, vs, kvs, H, s, Q, hu, I, e, r, p, hl, h => by
    cases p with
    | @cons q _ ps' _ k p' =>
      cases r with
      | @cons _ u _ us ru r' =>
        obtain ⟨b, e1, e2, e3⟩ := k
        obtain ⟨ku, vu⟩ := u
        have ra : L2.RelV (.ref b) ku := by rw [← e1]; exact ru.1
        cases (show ku = Value.ref b from ra)
        have rv : L2.RelV kv.2 vu := by rw [← e3]; exact ru.2
        rw [List.length_cons] at hl
        rw [List.forIn_cons]
        refine wpAny_bind (wpAny_bind (dset hu I e e2 (by rw [sizeLine_eq]; omega) rv fun s1 I1 => wpAny_pure ?_))
        have keep : ∀ {ps : List (V × V)} {more : List (List Key × V)}, Paired (KeyAt H) ps more → Paired (KeyAt (upd H a (.dT (putK kvs kv.1 kv.2)))) ps more := fun x => by
          induction x with
          | nil => exact .nil
          | cons z _ ih =>
            obtain ⟨b, e1, e2, e3⟩ := z
            exact .cons ⟨b, e1, by rw [upd_ne (ne_of e2 e (fun z => nomatch z))]; exact e2, e3⟩ ih
        refine dsets more hu I1 upd_same r' (keep p') (by have := length_putK kvs kv.1 kv.2; omega) fun s2 I2 => h s2 ?_
        rw [upd_upd] at I2
        exact I2
end
/-- {k: v, ..}, the keys tuples of ints and texts; the new dict stands empty while the pairs are made -/
def tDispT (trs : List (TE × TE)) : TE := fun σ H Q => ∀ p, H p = none → tPairs trs σ (upd H p (.dT [])) fun ps H2 => H2 p = some (.dT []) ∧ ∃ kvs : List (List Key × V), Paired (KeyAt H2) ps kvs ∧ kvs.length ≤ 15 ∧ Q (.ref p) (upd H2 p (.dT (putAll [] kvs)))
theorem pe_dispT {X : Cx} {pos : Pos} {keys : List (Option Expr)} {values : List Expr} {trs : List (TE × TE)} (hu : X.A.units + 1 < cLine) (h : PPs X pos keys values trs) (hall : keys.all (·.isSome) = true) (hl : keys.length = values.length) (h0 : keys ≠ [])
    (h15 : keys.length ≤ 15) : PE X (.Dict keys values pos) (tDispT trs) := by
  refine ⟨fun pins s σ H Q I q => ?_⟩
  have hn := I.hok.fresh (Nat.le_refl s.heap.objs.size)
  have I1 := I.laid (a := s.heap.objs.size) (o := .dT []) (h' := s.heap.push { cls := .type "dict", data := .dict #[] }) (t' := s.toks) (fun _ _ q => Heap.get?_push_of_some _ q) (Nat.le_refl _) (dt_empty s.heap I.big)
  have hp := pairTrees_length keys values X.env pos hall hl
  have hne : pairTrees keys values X.env pos ≠ [] := fun c => by
    rw [c] at hp
    exact h0 (List.length_eq_zero_iff.mp hp.symm)
  rw [arm_eval_Dict, zip_pairTrees keys values X.env pos hall hl, dictDisplay_pairs _ hne (by omega)]
  refine wpAny_bind (wpAny_standAt (wpAny_bind ?_))
  unfold subDict
  refine wpAny_bind (wpAny_alloc ?_)
  refine wpAny_bind (wpAny_holding ?_)
  rw [if_pos (by omega)]
  refine wpAny_bind (thn (h.run pins _ σ _ _ I1 (q _ hn)) fun ws s2 ⟨ps, H2, I2, rel, e, kvs, pr, lk, q2⟩ => ?_)
  refine wpAny_holding (wpAny_bind (dsets kvs hu I2 e rel pr (by rw [List.length_nil]; omega) fun s3 I3 => wpAny_pure (wpAny_pure (wpAny_pure ⟨.ref s.heap.objs.size, _, I3, rfl, q2⟩))))
theorem dispT {trs : List (TE × TE)} {σ : L2.St} {H : Hp} {Q : VK} (h : ∀ (p : Addr) (G : Hp), H p = none → G p = some (.dT []) → Same H G → tPairs trs σ G fun ps H2 => H2 p = some (.dT []) ∧ ∃ kvs : List (List Key × V), Paired (KeyAt H2) ps kvs ∧ kvs.length ≤ 15 ∧
    ∀ G2 : Hp, G2 p = some (.dT (putAll [] kvs)) → (∀ b, b ≠ p → G2 b = H2 b) → Q (.ref p) G2) : tDispT trs σ H Q := fun p hp => by
  have key := h p _ hp upd_same (same_upd hp)
  have mono : ∀ {trs : List (TE × TE)} {σ : L2.St} {H : Hp} {A B : List (V × V) → Hp → Prop}, A = B → tPairs trs σ H A → tPairs trs σ H B := fun e h => e ▸ h
  refine mono ?_ key
  funext ps H2
  refine propext ⟨fun ⟨a, kvs, b, c, d⟩ => ⟨a, kvs, b, c, d _ upd_same fun b hb => upd_ne hb⟩, fun ⟨a, kvs, b, c, d⟩ => ⟨a, kvs, b, c, fun G2 g off => ?_⟩⟩
  have e : G2 = upd H2 p (.dT (putAll [] kvs)) := by
    funext x
    by_cases q : x = p
    · rw [q, g, upd_same]
    · rw [off x q, upd_ne q]
  rw [e]
  exact d
/-- what a comprehension within a comprehension walks -/
theorem pi_listK {X : Cx} {K : PySem.W.Frag} {tg l : Expr} {tl : TE} (e : X.K = K) (hl : PE X l tl) : PI X tg l (iList K tl) := e ▸ pi_list hl
theorem pi_tupK {X : Cx} {K : PySem.W.Frag} {tg l : Expr} {tl : TE} (e : X.K = K) (hl : PE X l tl) : PI X tg l (iTup K tl) := e ▸ pi_tup hl
/-- a join within a comprehension -/
def joinR (K : PySem.W.Frag) : V → List V → Hp → VK → Prop := fun x xs H Q => ∃ a p, ∃ ys : List Str, x = .str a ∧ xs = [.ref p] ∧ (SqL K H p (ys.map V.str) ∨ SqT K H p (ys.map V.str)) ∧
      (ys.map (·.length)).sum + ys.length * a.length ≤ 16777216 ∧ Q (.str (Txt.join a ys)) H
theorem pe_joinK {X : Cx} {o e : Expr} {to te : TE} {apos pos : Pos} (ho : PE X o to) (he : PE X e te) (hs : starEach [e] X.env = [(false, eval e X.env)] := by rfl) (hbase : attributeBase o "join" X.env (eval o X.env) = eval o X.env := by rfl) (hline : (apos.endLine == pos.line) = true := by rfl) :
    PE X (.Call (.Attribute o "join" apos) [e] [] pos) (tM1 (joinR X.K) to te) := pe_join ho he hs hbase hline
theorem joinS {K : PySem.W.Frag} {H : Hp} {a : Str} {p : Addr} {ys : List Str} {Q : VK} (hp : SqL K H p (ys.map V.str) ∨ SqT K H p (ys.map V.str)) (hz : (ys.map (·.length)).sum + ys.length * a.length ≤ 16777216) (h : Q (.str (Txt.join a ys)) H) : joinR K (.str a) [.ref p] H Q := ⟨a, p, ys, rfl, rfl, hp, hz, h⟩
/-- dict(xs) of a list of pairs -/
def rDictP (K : PySem.W.Frag) : List V → Hp → VK → Prop := fun xs H Q => ∃ (a : Addr) (ps : List Addr) (kvs : List (Key × V)), xs = [.ref a] ∧ SqL K H a (ps.map V.ref) ∧ Paired (fun p kv => SqT K H p [kV kv.1, kv.2]) ps kvs ∧ ∀ p, H p = none → Q (.ref p) (upd H p (.dK (mergeK [] kvs)))
theorem c_dictP {X : Cx} (h : X.calm = true) : CallR X (.type "dict") (rDictP X.K) := call_dictP h
theorem dictP {K : PySem.W.Frag} {H : Hp} {a : Addr} {ps : List Addr} {kvs : List (Key × V)} {Q : VK} (h : SqL K H a (ps.map V.ref)) (hp : Paired (fun p kv => SqT K H p [kV kv.1, kv.2]) ps kvs) (q : ∀ (p : Addr) (G : Hp), H p = none → G p = some (.dK (mergeK [] kvs)) → Same H G → Q (.ref p) G) : rDictP K [.ref a] H Q :=
  ⟨a, ps, kvs, rfl, h, hp, fun p hp => q p _ hp upd_same (same_upd hp)⟩
end Ry

/-! Defs of which it is known that no repr is under way; repr of data. -/
namespace Rg
open PySem PySem.Spec PyProof.Rows L2
/-- the promise of a def, for the frames that stand in no repr -/
structure FnG (P : Program) (w : World) (K : PySem.W.Frag) (mg : Str → Option Value) (base : Heap) (CX : CXT) (k : Nat) (f : Addr) (fd : FuncData) (ps : List Str) (sp : Sp) : Prop where
  len : ∀ vs H Q E, sp vs H Q E → vs.length = ps.length
  run : ∀ (A : Around) (st : List Env) (s : Shared) (H : Hp) (ag : Args) (us : List Value) (vs : List V) (Q : VK) (E : XK), A.guards = some [] → Room k A → Env0 P w K mg base A st s H → BindsTo s fd ag (ps.zip us) → Vals vs us → sp vs H Q E →
    codeAny (model P w) A (.call (.ref f) ag) (CR CX st P w H s Q E) s
section
variable {P : Program} {w : World} {K : PySem.W.Frag} {mg : Str → Option Value} {base : Heap} {CX : CXT}
theorem FnG.mono {j k : Nat} {f : Addr} {fd : FuncData} {ps : List Str} {sp : Sp} (F : FnG P w K mg base CX j f fd ps sp) (h : j ≤ k) : FnG P w K mg base CX k f fd ps sp := ⟨F.len, fun A st s H ag us vs Q E g hr => F.run A st s H ag us vs Q E g (hr.mono h)⟩
theorem fnG_of {k : Nat} {f : Addr} {nm qual : Str} {pa : Arguments} {body : List Stmt} {sc : Scope} {dV kV doc pm cdv ct oc : Value} {an od : Option Addr} {osl : Array (Option Value)} {N ps : List Str} {sp : Sp}
    (lk : K.lookup f = some ⟨oc, od, .func (PySem.W.fnOf nm qual pa body sc dV kV doc pm an cdv ct), osl⟩) (hcd : PySem.W.codeIn K cdv qual = true) (S : FnScope N ps sc) (len : ∀ vs H Q E, sp vs H Q E → vs.length = ps.length)
    (hb : ∀ (A : Around) (st : List Env) (s : Shared) (H : Hp) (vs : List V) (Q : VK) (E : XK), A.guards = some [] → Room k (A.deeper (envOfC qual sc s.heap.objs.size f cdv)) → sp vs H Q E → ∃ t, PSs (cxOf CX P w K mg base N qual sc f cdv A st s H E) body t ∧ t { nx := fun _ H' => Q .non H', rt := Q } (start N vs) H) :
    FnG P w K mg base CX (k + 1) f (PySem.W.fnOf nm qual pa body sc dV kV doc pm an cdv ct) ps sp := by
  refine ⟨len, fun A st s H ag us vs Q E g hr e0 hbd r hsp => ?_⟩
  have KX : K.In s.heap := e0.mod.kin.keeps fun x o e => (e0.bs x o e).1
  have kinds : ∀ y ∈ ps.zip us, sc.names.lookup y.1 = some .local ∨ (sc.names.lookup y.1 = some .cell ∧ ((cellsFrom (s.heap.objs.size + 1) sc.names []).lookup y.1).isSome = true) := fun y hy =>
    (S.par y.1 (List.of_mem_zip hy).1).imp id fun q => ⟨q, PySem.W.cellsFrom_some _ _ _ (.inl q)⟩
  refine codeAny_call_function hr.depth (KX _ _ lk) rfl S.co S.gen rfl (PySem.W.codeRec_of KX hcd) (hbd _ _ _ _ (wpAny_newFunctionEnv_cells S.kind kinds fun env he s1 x => ?_))
  subst he
  refine ⟨(e0.mod.nolimit.keeps fun y o e => (e0.bs y o e).1).keeps x.toInCall.keep, codeAny_func ?_⟩
  obtain ⟨t, ht, hq⟩ := hb A st s H vs Q E g (hr.deeper _) hsp
  refine wpAny_mono (ht.run [] s1 (start N vs) H _ (inv_start S hr.hd e0 (len _ _ _ _ hsp) r x) hq) (fun fl s' hs => ?_) fun _ _ z => z
  cases fl with
  | ret u => exact let ⟨v, _, H', J, rv, q⟩ := hs; ⟨v, H', J.os, J.bare, J.base, J.hok, rv, q⟩
  | next => exact let ⟨_, H', J, q⟩ := hs; ⟨V.non, H', J.os, J.bare, J.base, J.hok, rfl, q⟩
  | brk => exact let ⟨_, _, _, q⟩ := hs; q.elim
  | cont => exact let ⟨_, _, _, q⟩ := hs; q.elim
end
section
variable {P : Program} {w : World} {K : PySem.W.Frag} {mg : Str → Option Value} {base : Heap}
/-- a def by its body, no repr under way -/
theorem okG {x qual : Str} {st : Stmt} {f : Addr} {fd : FuncData} {N ps : List Str} {k : Nat} {sp : Sp} (F : Fun K x qual st f fd) (S : FnScope N ps (defScope st)) (len : ∀ vs H Q E, sp vs H Q E → vs.length = ps.length)
    (hb : ∀ (cdv : Value) (A : Around) (out : List Env) (s : Shared) (H : Hp) (vs : List V) (Q : VK) (E : XK), A.guards = some [] → Room k (A.deeper (envOfC qual (defScope st) s.heap.objs.size f cdv)) → sp vs H Q E →
      ∃ t, PSs (cxOf CX0 P w K mg base N qual (defScope st) f cdv A out s H E).nox (defBody st) t ∧ t { nx := fun _ H' => Q .non H', rt := Q } (start N vs) H) : FnG P w K mg base CX0 (k + 1) f fd ps sp := by
  obtain ⟨_, _, _, _, _, _, cdv, _, _, rfl, lk, hcd⟩ := F.ex
  exact fnG_of lk hcd S len fun A out s H vs Q E g hr h => let ⟨t, p, q⟩ := hb cdv A out s H vs Q E g hr h; ⟨t, p.nox, q⟩
end
section
variable {X : Cx} {CX : CXT} {k : Nat} {f : Addr} {fd : FuncData} {ps : List Str} {sp : Sp} {E : XK} {x : Str} {p pos : Pos} {e : Expr} {es : List Expr} {t : TA}
/-- such a def called by its name -/
theorem pe_callG (g : X.A.guards = some []) (F : FnG X.prog X.w X.K X.mg X.base CX k f fd ps sp) (hr : Room k X.A) (hg : Gl X x) (hm : X.mg x = some (.ref f)) (hk : PySem.W.keepIn X.K (.ref f) = true) (hb : Binds X.K fd ps []) (hx : Passes CX X E) (ha : PA X (e :: es) t)
    (hdb : (x == ("__debug__" : Str)) = false := by decide) (he : starEach (e :: es) X.env = (false, eval e X.env) :: starEach es X.env := by rfl) (hpl : (backTo pos (starEach es X.env)).any (·.1) = false := by rfl) :
    PE X (.Call (.Name x p) (e :: es) [] pos) (tCall sp [] E t) := ⟨fun pins s σ H Q I h => by
  refine wpAny_Call_Name_kw (ld_glob I hg hm (PySem.W.callWith_K (h₀ := X.base) I.ok.mod.kin hk (thn (ha.run pos pins s σ H _ I h) fun us s1 hq => ?_) he hpl) hdb)
  obtain ⟨vs, H1, I1, r, q⟩ := hq
  rw [List.append_nil] at q
  have hl : (us ++ []).length = ps.length := by rw [List.append_nil, ← r.length]; exact F.len _ _ _ _ q
  have b := hb s1 us I1.kIn hl
  rw [List.append_nil] at b
  refine ⟨I1.kIn, wpAny_call (codeAny_mono (F.run X.A X.stack s1 H1 ⟨us, []⟩ us vs Q E g hr I1.env0 b r q) fun res s' z => ?_)⟩
  match res, z with
  | .error v, z => exact hx pins σ H1 s1 v s' I1 z
  | .ok (.ret u), z => exact I1.after z
  | .ok .next, z => exact z.elim
  | .ok .brk, z => exact z.elim
  | .ok .cont, z => exact z.elim⟩
end
/-! ### repr -/
def rRepr (K : PySem.W.Frag) : List V → Hp → VK → Prop := fun vs H Q => ∃ (a : Addr) (d : PyData), vs = [.ref a] ∧ Dp K H (.ref a) d ∧ d.showable = true ∧ d.hasDict = false ∧ d.depth ≤ 100 ∧ d.shown.length ≤ sizeLine ∧ Q (.str d.shown) H
theorem cr_repr {X : Cx} (g : X.A.guards = some []) (hu : X.A.units + 101 < cLine) : CallR X (.builtin "repr") (rRepr X.K) := by
  intro pins s σ H vs us Q I r h
  obtain ⟨a, d, rfl, dp, sh, nd, dd, hz, q⟩ := h
  rw [Vals.ref1 r]
  obtain ⟨as, rd⟩ := Dp.reads I d (.ref a) (.ref a) dp rfl
  refine repr_of_reads' rd sh (PyData.noDict_hsm nd) g (by omega) (fun _ _ z => z) (fun h' u tk kp => ?_) hz
  exact ⟨.str d.shown, H, I.kept (t' := tk) kp, ⟨_, rfl⟩, q⟩
/-! ### the law's own def -/
/-- the abstract heap behind the top: the script alone, unless it is one of the module's own objects -/
def scriptH (K : PySem.W.Frag) (a : Addr) (vs : List Value) (ns : List Int) : Hp := fun b => if b = a ∧ K.lookup a = none then some (.frz { cls := .type "list", data := .seq vs.toArray } (.lst (ns.map V.int))) else none
theorem scriptH_some {K : PySem.W.Frag} {a b : Addr} {vs : List Value} {ns : List Int} {u : HO} (h : scriptH K a vs ns b = some u) : b = a ∧ K.lookup a = none ∧ u = .frz { cls := .type "list", data := .seq vs.toArray } (.lst (ns.map V.int)) := by
  unfold scriptH at h
  by_cases c : b = a ∧ K.lookup a = none
  · rw [if_pos c] at h
    exact ⟨c.1, c.2, (Option.some.inj h).symm⟩
  · rw [if_neg c] at h
    cases h
theorem walk_ofG {l : PySem.W.OpenLaw} {n k : Nat} {q : Program} {loose : List Str} {XP : (Str → Option Value) → Heap → Prop} {YP : World → Heap → Prop} {d : DefRec} {K : Params → PySem.W.Frag} {CX : World → CXT} {sp : World → Sp} {x : Str}
    (hn : l.most = some n) (hn2 : n ≤ sizeLine) (hdf : d.params.defaults = []) (hr : Room k callerA) (hY : ∀ (w : World) (h : Heap), YP w h → (K w.params).In h)
    (F : ∀ (w : World) (mg : Str → Option Value) (fa : Addr) (h : Heap), (K w.params).In h → h.Ns mainGlobals mg → mg d.name = some (.ref fa) →
      ∃ fd : FuncData, (∀ (s : Shared) (u : Value), BindsTo s fd ⟨[u], []⟩ [(x, u)]) ∧ ∀ base : Heap, (K w.params).In base → base.Ns mainGlobals mg → FnG l.prog w (K w.params) mg base (CX w) k fa fd [x] (sp w))
    (hsp : ∀ (w : World) (H : Hp) (a : Addr) (ns : List Int), ns.length ≤ n → SqL (K w.params) H a (ns.map V.int) → sp w [.ref a] H (fun v _ => v = .bl true) fun _ _ _ => False)
    (hCX : ∀ (w : World) (H : Hp) (s : Shared) (e : Value) (s' : Shared), CX w [] H s (fun _ _ _ => False) e s' → False) :
    PySem.W.WalkO q loose XP YP l.row.toRowW d [] (fun f vs => PySem.call f vs) := by
  refine Att.attach_call hn hdf fun w s₀ s1 mg mb fa o pm cd doc a vs ns G Y _ _ _ hmg hobj hints hlen hgen => ?_
  have KX := hY w _ Y
  obtain ⟨fd, hbind, hF⟩ := F w mg fa _ KX G.T.g hmg
  have len : vs.length = ns.length := hints.length
  have rv := vals_ints hints
  let H := scriptH (K w.params) a vs ns
  have hS : SqL (K w.params) H a (ns.map V.int) := by
    cases hk : (K w.params).lookup a with
    | none => exact .inl (.inr ⟨_, if_pos ⟨rfl, hk⟩⟩)
    | some ob =>
      have e := KX a ob hk
      rw [hobj] at e
      cases e
      exact .inr ⟨_, vs.toArray, _, hk, rfl, rfl, rfl, by rw [List.size_toArray, len]; omega, by simpa using rv⟩
  have hok : HOk l.prog w H s1.heap := fun b u z => by
    obtain ⟨rfl, _, rfl⟩ := scriptH_some z
    exact ⟨hobj, by rw [List.length_map]; omega, vs, _, rv, hobj⟩
  have keepK : ∀ {b : Addr} {ob : Obj}, s1.heap.get? b = some ob → H b = none → (hidT s1.heap H).get? b = some ob := fun e z => hidT_get e z
  have noDict : ∀ {b : Addr} {ob : Obj} {es : Array DictEntry} {ep : Nat}, s1.heap.get? b = some ob → ob.data = .dict es ep → H b = none := fun {b ob es ep} e z => by
    cases c : H b with
    | none => rfl
    | some u =>
      obtain ⟨rfl, _, _⟩ := scriptH_some c
      rw [hobj] at e
      cases e
      exact absurd z (fun y => Data.noConfusion y)
  have hns : ∀ {b : Addr} {m : Str → Option Value}, s1.heap.Ns b m → (hidT s1.heap H).Ns b m := fun {b m} ⟨ob, es, ep, e, z, r⟩ => ⟨ob, es, ep, keepK e (noDict e z), z, r⟩
  have hKb : (K w.params).In (hidT s1.heap H) := fun b ob e => keepK (KX b ob e) (by
    cases c : H b with
    | none => rfl
    | some u =>
      obtain ⟨rfl, z, _⟩ := scriptH_some c
      rw [z] at e
      cases e)
  have hM : Mod (K w.params) mg (hidT s1.heap H) := ⟨hKb, hns G.T.g, ⟨mb, hns G.T.b, G.T.builtins⟩, let ⟨mc, h1, h2⟩ := G.T.nolimit; ⟨mc, hns h1, h2⟩⟩
  have e0 : Env0 l.prog w (K w.params) mg (hidT s1.heap H) callerA [] s1 H := ⟨rfl, hM, fun b ob e => of_hidT e, Nat.le_of_eq (hidT_size _ _), trivial, fun b z => absurd z List.not_mem_nil, hok, .of_eq hgen⟩
  refine codeAny_mono ((hF _ hKb (hns G.T.g)).run callerA [] s1 H ⟨[.ref a], []⟩ [.ref a] [.ref a] _ _ rfl hr e0 (hbind s1 (.ref a)) (.cons rfl .nil) (hsp w H a ns hlen hS)) fun r s' z => ?_
  match r, z with
  | .error v, z => exact (hCX w H s1 v s' z).elim
  | .ok .next, z => exact z.elim
  | .ok .brk, z => exact z.elim
  | .ok .cont, z => exact z.elim
  | .ok (.ret u), z =>
    obtain ⟨v, H', os, bare, un, hok', rel, rfl⟩ := z
    obtain rfl : u = Value.bool true := rel
    refine ⟨rfl, OldK.of_keep fun b ob e => ?_, os, bare⟩
    cases c : H b with
    | none => exact un.keep b ob e c (fun y => absurd y List.not_mem_nil) (fun y => absurd y List.not_mem_nil)
    | some u =>
      obtain ⟨rfl, _, rfl⟩ := scriptH_some c
      obtain ⟨e2, _⟩ := hok' _ _ (un.frzs _ _ _ c)
      rw [hobj] at e
      cases e
      exact e2
end Rg
namespace Rg
theorem u101 {k : Nat} {A : PySem.Around} (h : L2.Room k A) : A.units + 101 < PySem.cLine := by have := h.un; omega
end Rg

/-! Closures: a lambda with parameters that is handed to a def, and called there by the parameter's name. -/
namespace Rk
open PySem PySem.Spec PyProof.Rows L2 LamX NdefX
/-- what is known of the function at f, seen from a state s0: from any later state in which the frames fr and what was not tracked are kept, its call keeps the promise sp -/
structure Clo (P : Program) (w : World) (K : PySem.W.Frag) (mg : Str → Option Value) (base : Heap) (k : Nat) (fr : List Addr) (f : Addr) (s0 : Shared) (H0 : Hp) (sp : Sp) : Prop where
  ob : ∃ oc od fd sl, s0.heap.get? f = some (⟨oc, od, .func fd, sl⟩ : Obj)
  nt : H0 f = none
  nf : f ∉ fr
  run : ∀ (A : Around) (st : List Env) (s : Shared) (H : Hp) (us : List Value) (vs : List V) (Q : VK) (E : XK), Room k A → Env0 P w K mg base A st s H → Un fr [] H0 H s0.heap s.heap → Vals vs us → sp vs H Q E →
    codeAny (model P w) A (.call (.ref f) ⟨us, []⟩) (CR (L2.CX P w) st P w H s Q E) s
/-- the names of a lambda: its parameters, what it captures, globals -/
structure LamP (sc scope : Scope) (ps : List Str) : Prop where
  kind : scope.kind = .function
  co : scope.isCoroutine = false
  gen : scope.isGenerator = false
  nocell : ∀ y ∈ scope.names, y.2 ≠ .cell
  par : ∀ p ∈ ps, scope.names.lookup p = some .local
  loc : ∀ y ∈ scope.names, y.2 = .local → y.1 ∈ ps
  free : ∀ y ∈ scope.names, y.2 = .free → sc.names.lookup y.1 = some .cell ∨ sc.names.lookup y.1 = some .free
def lamPB (sc scope : Scope) (ps : List Str) : Bool :=
  decide (scope.kind = .function) && (!scope.isCoroutine && (!scope.isGenerator && ((scope.names.all fun y => !decide (y.2 = .cell)) && ((ps.all fun p => decide (scope.names.lookup p = some .local)) && ((scope.names.all fun y => !decide (y.2 = .local) || decide (y.1 ∈ ps)) &&
    scope.names.all fun y => !decide (y.2 = .free) || (decide (sc.names.lookup y.1 = some .cell) || decide (sc.names.lookup y.1 = some .free)))))))
theorem lamP_by {sc scope : Scope} {ps : List Str} (h : lamPB sc scope ps = true) : LamP sc scope ps := by
  unfold lamPB at h
  simp only [Bool.and_eq_true, Bool.or_eq_true, Bool.not_eq_true', decide_eq_true_eq, decide_eq_false_iff_not, List.all_eq_true] at h
  obtain ⟨h1, h2, h3, h4, h5, h6, h7⟩ := h
  exact ⟨h1, h2, h3, h4, h5, fun y m e => (h6 y m).resolve_left fun n => n e, fun y m e => (h7 y m).resolve_left fun n => n e⟩
section
variable {X : Cx} {pins : List (Addr × Obj)} {σ : L2.St} {H HZ : Hp} {s s1 : Shared} {ps : List Str}
theorem LamP.has {scope : Scope} (L : LamP X.env.scope scope ps) (ok : X.Ok) : ∀ y ∈ scope.names, y.2 = .free → ∃ c, X.env.cells.lookup y.1 = some c :=
  fun y m e => (L.free y m e).elim (fun k => ok.has _ (.inl k)) fun k => ok.has _ (.inr k)
/-- the slots in a lambda: the parameters' hold what was handed in, the others are the maker's -/
structure Slots (X : Cx) (ps : List Str) (us : List Value) (σ σ' : L2.St) : Prop where
  len : σ'.length = σ.length
  par : ∀ (i : Nat) (y : Str) (v : V), X.N[i]? = some y → σ'[i]? = some (some v) → y ∈ ps → ∃ u, RelV v u ∧ (ps.zip us).reverse.lookup y = some u
  old : ∀ (i : Nat) (y : Str) (v : V), X.N[i]? = some y → σ'[i]? = some (some v) → y ∉ ps → σ[i]? = some (some v)
theorem slots1 {p : Str} {j : Nat} {v : V} {u : Value} (nd : X.N.Nodup) (hj : X.N[j]? = some p) (r : RelV v u) : Slots X [p] [u] σ (σ.set j (some v)) := by
  have same : ∀ {i : Nat}, X.N[i]? = some p → j = i := fun {i} hi => by
    rcases Nat.lt_trichotomy j i with q | q | q
    · exact absurd (List.mem_of_getElem? (show (X.N.take i)[j]? = some p by rw [List.getElem?_take, if_pos q]; exact hj)) (Rd.nodup_take nd hi)
    · exact q
    · exact absurd (List.mem_of_getElem? (show (X.N.take j)[i]? = some p by rw [List.getElem?_take, if_pos q]; exact hi)) (Rd.nodup_take nd hj)
  refine ⟨List.length_set, fun i y w hi hw hy => ?_, fun i y w hi hw hy => ?_⟩
  · have hy : y = p := by simpa using hy
    subst hy
    cases same hi
    have l : j < σ.length := by
      rcases Nat.lt_or_ge j σ.length with l | l
      · exact l
      · rw [List.getElem?_eq_none (by rw [List.length_set]; exact l)] at hw
        cases hw
    rw [List.getElem?_set_self l] at hw
    cases hw
    exact ⟨u, r, by simp [List.lookup]⟩
  · have ne : j ≠ i := fun e => by
      subst e
      rw [hj] at hi
      cases hi
      exact hy (List.mem_singleton.mpr rfl)
    rw [List.getElem?_set_ne ne] at hw
    exact hw
def put1 (j : Nat) : L2.St → List V → L2.St := fun σ vs => match vs with
  | [v] => σ.set j (some v)
  | _ => σ
theorem hput1 {p : Str} {j : Nat} (nd : X.N.Nodup) (hj : X.N[j]? = some p) : ∀ (σ : L2.St) (vs : List V) (us : List Value), Vals vs us → us.length = [p].length → Slots X [p] us σ (put1 j σ vs) := fun σ vs us r l => by
  match us, l, vs, r with
  | [u], _, [v], .cons r .nil => exact slots1 nd hj r
/-- the lambda's body begins -/
theorem lam_begin {A : Around} {outer : List Env} {E : XK} {scope : Scope} {f c' : Addr} {h₁ : Heap} {tk : Nat} {us : List Value} {σ' : L2.St} (I : Inv X pins σ H s) (L : LamP X.env.scope scope ps) (S : Slots X ps us σ σ') (e0 : Env0 X.prog X.w X.K X.mg X.base A outer s1 HZ) (hd : A.handled = none)
    (un : Un (frs X.stack) [] H HZ s.heap s1.heap) (hns : h₁.Ns s1.heap.objs.size fun y => (ps.zip us).reverse.lookup y) (kp : ∀ b o, s1.heap.get? b = some o → h₁.get? b = some o) :
    Inv (lamCx X A outer s1 HZ E scope f c') [] σ' HZ { s1 with heap := h₁, toks := tk } := by
  have hfree := L.has I.ok
  have cm : ∀ {y c}, (cloFrom X.env.cells scope.names []).lookup y = some c → X.env.cells.lookup y = some c := fun e => clo_cm hfree e
  have look : ∀ {y}, scope.names.lookup y = some .free → ∃ c, (cloFrom X.env.cells scope.names []).lookup y = some c := fun {y} hl => by
    obtain ⟨c, hc⟩ := hfree _ (PySem.mem_of_lookup hl) rfl
    exact ⟨c, clo_has hfree (PySem.mem_of_lookup hl) hc⟩
  have cellK : ∀ {c : Addr} {v : Option Value}, H c = none → s.heap.IsCell c v → h₁.IsCell c v := fun {c v} n z => by
    obtain ⟨o, ho, hd⟩ := z
    obtain ⟨sl, q⟩ := un.any ho n List.not_mem_nil
    exact ⟨_, kp _ _ q, hd⟩
  have no : ∀ b : Addr, b ∉ (lamCx X A outer s1 HZ E scope f c').ex := fun b => List.not_mem_nil
  have nc : ∀ {y}, scope.names.lookup y = some .cell → False := fun hl => L.nocell _ (PySem.mem_of_lookup hl) rfl
  have okX : (lamCx X A outer s1 HZ E scope f c').Ok :=
    { mod := e0.mod, kind := L.kind, glob := rfl, blt := rfl, above := Nat.le_refl _,
      inj := fun y z c e1 e2 => I.ok.inj y z c (cm e1) (cm e2)
      has := fun y hy => hy.elim (fun h => (nc h).elim) look
      cab := fun y c z _ => by cases (show false = true from z)
      hd := fun _ => hd, frames := Around.frames_deeper e0.frames, stk := .inr ⟨rfl, rfl⟩, exf := fun b z => absurd z (no b), bs := e0.bs, bsz := e0.bsz, noex := fun b _ _ => no b, exfs := fun b z => absurd z (no b), funs := e0.funs, frf := e0.frf }
  refine { ok := okX, os := rfl, bare := e0.bare, base := Un.kept kp, loc := ⟨_, hns, fun i y v e1 e2 e3 => ?_⟩, cell := fun y c e => ?_, free := e0.hok.fresh (Nat.le_refl _), freeC := fun y c e => ?_, pin := fun q hq => absurd (show q ∈ ([] : List (Addr × Obj)) ++ [] from hq) (by simp), hok := e0.hok.kept kp, len := S.len.trans I.len }
  · have e3 : Vis scope y := e3
    rcases e3 with k | k | k
    · obtain ⟨u, r, q⟩ := S.par i y v e1 e2 (L.loc _ (PySem.mem_of_lookup k) rfl)
      exact ⟨u, r, .inl ⟨k, q⟩⟩
    · exact (nc k).elim
    · have ny : y ∉ ps := fun m => by
        have := L.par y m
        rw [k] at this
        cases this
      obtain ⟨m, hn, hl⟩ := I.loc
      have kx := L.free _ (PySem.mem_of_lookup k) rfl
      obtain ⟨u, r, q⟩ := hl i y v e1 (S.old i y v e1 e2 ny) (kx.elim (fun z => .inr (.inl z)) fun z => .inr (.inr z))
      obtain ⟨c2, h2⟩ := look k
      refine ⟨u, r, .inr ⟨.inr k, c2, h2, ?_⟩⟩
      rcases q with ⟨z, _⟩ | ⟨_, c3, e', z⟩
      · have z : X.env.scope.names.lookup y = some .local := z
        rcases kx with k2 | k2 <;> rw [show X.env.scope.names.lookup y = _ from k2] at z <;> cases z
      · rw [cm h2] at e'
        cases e'
        exact cellK (I.freeC y _ (cm h2)) z
  · obtain ⟨v, z⟩ := I.cell y c (cm e)
    exact ⟨v, cellK (I.freeC y c (cm e)) z⟩
  · obtain ⟨v, o, ho, _⟩ := I.cell y c (cm e)
    exact un.free c o ho (I.freeC y c (cm e)) List.not_mem_nil
/-- a lambda just made is a closure -/
theorem clo_of {f c' : Addr} {pm ctv : Value} {params : Arguments} {body : Expr} {scope : Scope} {k : Nat} {tb : TE} {put : List V → L2.St} (I : Inv X pins σ H s) (L : LamP X.env.scope scope ps)
    (hf : s.heap.get? f = some (PySem.W.kla_obj "<lambda>" (X.env.qual ++ "<lambda>") params body scope (cloFrom X.env.cells scope.names []) pm c' ctv)) (hfn : H f = none) (hfr : f ∉ frs X.stack)
    (hbind : ∀ us : List Value, us.length = ps.length → bindArgs (PySem.W.kla_fn "<lambda>" (X.env.qual ++ "<lambda>") params body scope (cloFrom X.env.cells scope.names []) pm (.ref c') ctv) ⟨us, []⟩ = pure (ps.zip us))
    (hput : ∀ vs us, Vals vs us → us.length = ps.length → Slots X ps us σ (put vs))
    (hbody : ∀ (A : Around) (outer : List Env) (s : Shared) (H : Hp) (E : XK), Room k (A.deeper (lamEnv X scope s.heap.objs.size f c')) → PE (lamCx X A outer s H E scope f c') body tb) :
    Clo X.prog X.w X.K X.mg X.base (k + 1) (frs X.stack) f s H (fun vs HZ Q E => vs.length = ps.length ∧ HZ c' = some (CodeO c' (X.env.qual ++ "<lambda>")) ∧ tb (put vs) HZ Q) := by
  refine ⟨⟨_, _, _, _, hf⟩, hfn, hfr, ?_⟩
  rintro A st s1 HZ us vs Q E hr e0 un r ⟨lv, hc, ht⟩
  have lu : us.length = ps.length := r.length.symm.trans lv
  have of1 := un.keep f _ hf hfn hfr List.not_mem_nil
  obtain ⟨⟨oc, zs, t, hoc, hdc, hvc⟩, _, _⟩ := e0.hok c' _ hc
  refine PySem.W.kla_callFunE hr.depth of1 rfl L.co L.gen rfl ⟨c', oc, zs, t, rfl, hoc, hdc, hvc⟩ ?_
  rw [hbind us lu]
  refine wpAny_pure (wpAny_newFunctionEnv (fun y hy => L.nocell y hy) (fun y hy => L.par _ (List.of_mem_zip hy).1) (fun h₁ hns hsb => ⟨(e0.mod.nolimit.keeps fun b o e => (e0.bs b o e).1).fresh _ hsb, ?_⟩) L.kind)
  show codeAny _ _ (.expr body (lamEnv X scope s1.heap.objs.size f c')) _ _
  have kp : ∀ b o, s1.heap.get? b = some o → h₁.get? b = some o := fun b o e => hsb.extBut b o (Nat.ne_of_lt (Heap.lt_size e)) (Heap.get?_push_of_some _ e)
  have J : Inv (lamCx X A st s1 HZ E scope f c') [] (put vs) HZ { s1 with heap := h₁, toks := s1.toks + (ps.zip us).length } := lam_begin I L (hput vs us r lu) e0 hr.hd un hns kp
  refine PySem.W.kla_codeExpr (wpAny_mono ((hbody A st s1 HZ E (hr.deeper _)).run [] _ _ HZ Q J ht) (fun v s' hq => ?_) fun e s' hq => hq)
  obtain ⟨v', H', J', rv, q⟩ := hq
  exact ⟨v', H', J'.os, J'.bare, J'.base, J'.hok, rv, q⟩
end
/-! ### the def that is handed a closure -/
structure FnC (P : Program) (w : World) (K : PySem.W.Frag) (mg : Str → Option Value) (base : Heap) (k : Nat) (f : Addr) (fd : FuncData) (ps : List Str) (kc : Nat) (sp : (Addr → Sp → Prop) → Sp) : Prop where
  len : ∀ C vs H Q E, sp C vs H Q E → vs.length = ps.length
  run : ∀ (A : Around) (st : List Env) (s : Shared) (H : Hp) (ag : Args) (us : List Value) (vs : List V) (Q : VK) (E : XK), Room k A → Env0 P w K mg base A st s H → BindsTo s fd ag (ps.zip us) → Vals vs us →
    sp (fun fa spf => Clo P w K mg base kc (frs st) fa s H spf) vs H Q E → codeAny (model P w) A (.call (.ref f) ag) (CR CX0 st P w H s Q E) s
section
variable {P : Program} {w : World} {K : PySem.W.Frag} {mg : Str → Option Value} {base : Heap}
/-- such a def by its body -/
theorem okC {x qual : Str} {st : Stmt} {f : Addr} {fd : FuncData} {N ps : List Str} {k kc : Nat} {sp : (Addr → Sp → Prop) → Sp} (F : Fun K x qual st f fd) (S : FnScope N ps (defScope st)) (len : ∀ C vs H Q E, sp C vs H Q E → vs.length = ps.length)
    (hb : ∀ (cdv : Value) (A : Around) (out : List Env) (s : Shared) (H : Hp) (vs : List V) (Q : VK) (E : XK), Room k (A.deeper (envOfC qual (defScope st) s.heap.objs.size f cdv)) → sp (fun fa spf => Clo P w K mg base kc (frs out) fa s H spf) vs H Q E →
      ∃ t, PSs (cxOf CX0 P w K mg base N qual (defScope st) f cdv A out s H E).nox (defBody st) t ∧ t { nx := fun _ H' => Q .non H', rt := Q } (start N vs) H) : FnC P w K mg base (k + 1) f fd ps kc sp := by
  obtain ⟨_, _, _, _, _, _, cdv, _, _, rfl, lk, hcd⟩ := F.ex
  refine ⟨len, fun A out s H ag us vs Q E hr e0 hbd r h => ?_⟩
  exact run_ofS lk hcd S hr e0 hbd r (len _ _ _ _ _ h) fun hr' => let ⟨t, p, q⟩ := hb cdv A out s H vs Q E hr' h; ⟨t, p.nox, q⟩
end
/-- x(e, ..), x a parameter that holds a closure -/
def tClo (C : Addr → Sp → Prop) (i : Nat) (E : XK) (t : TA) : TE := fun σ H Q => ∃ f spf, σ[i]? = some (some (.ref f)) ∧ C f spf ∧ t σ H fun vs H1 => spf vs H1 Q E
section
variable {X : Cx} {k kc i : Nat} {x : Str} {E : XK} {t : TA} {e : Expr} {es : List Expr} {p pos : Pos}
theorem pe_clo (hr : Room k X.A) (hk : kc ≤ k) (hex : X.ex = []) (hx : Passes (L2.CX X.prog X.w) X E) (hN : X.N[i]? = some x) (hv : Vis X.env.scope x) (ha : PA X (e :: es) t)
    (hd : (x == ("__debug__" : Str)) = false := by decide) (hcd : (x == ("__classdict__" : Str)) = false := by decide)
    (he : starEach (e :: es) X.env = (false, eval e X.env) :: starEach es X.env := by rfl) (hpl : (backTo pos (starEach es X.env)).any (·.1) = false := by rfl) :
    PE X (.Call (.Name x p) (e :: es) [] pos) (tClo (fun f spf => Clo X.prog X.w X.K X.mg X.base kc X.fs f X.s_0 X.H_0 spf) i E t) := by
  refine ⟨fun pins s σ H Q I h => ?_⟩
  obtain ⟨f, spf, hs, C, ht⟩ := h
  have at_ : ∀ {s H σ}, Inv X pins σ H s → PySem.W.FnAt f s.heap := fun J => by
    obtain ⟨oc, od, fd, sl, ho⟩ := C.ob
    exact ⟨_, _, _, _, J.base.keep f _ ho C.nt C.nf (by rw [hex]; exact List.not_mem_nil)⟩
  refine wpAny_Call_Name_kw (thn ((pe_var (pos := p) hN hv hd hcd).run pins s σ H (fun v H1 => v = .ref f ∧ H1 = H) I ⟨.ref f, hs, rfl, rfl⟩) fun u s1 ⟨v, H1, I1, r1, q1⟩ => ?_)
  obtain ⟨ev, eH⟩ := q1
  subst ev
  rw [eH] at I1
  obtain rfl : u = Value.ref f := r1
  refine PySem.W.callWith_F (first := []) (at_ I1) (thn (ha.run pos pins s1 σ H _ I1 ht) fun us s2 ⟨vs, H2, I2, r, q⟩ => ⟨at_ I2, ?_⟩) he hpl
  have un : Un X.fs [] X.H_0 H2 X.s_0.heap s2.heap := hex ▸ I2.base
  refine wpAny_call (codeAny_mono (C.run X.A X.stack s2 H2 us vs Q E (hr.mono hk) I2.env0 un r q) fun r s' z => ?_)
  match r, z with
  | .error v, z => exact hx pins σ H2 s2 v s' I2 z
  | .ok (.ret u), z => exact I2.after z
  | .ok .next, z => exact z.elim
  | .ok .brk, z => exact z.elim
  | .ok .cont, z => exact z.elim
end
/-! ### the def that makes the lambda -/
/-- the reading of arguments of which the last is a lambda -/
abbrev TL := L2.St → Hp → ((Addr → Sp → Prop) → List V → Hp → Prop) → Prop
structure PL (X : Cx) (kc : Nat) (es : List Expr) (t : TL) : Prop where
  run : ∀ (pos : Pos) (pins : List (Addr × Obj)) (s : Shared) (σ : L2.St) (H : Hp) (R : (Addr → Sp → Prop) → List V → Hp → Prop), Inv X pins σ H s → t σ H R →
    wpAny (model X.prog X.w) X.A (spliced (backTo pos (starEach es X.env))) (fun us s1 => ∃ vs H1, Inv X pins σ H1 s1 ∧ Vals vs us ∧ R (fun f sp => Clo X.prog X.w X.K X.mg X.base kc (frs X.stack) f s1 H1 sp) vs H1) X.xe s
def tlCons (te : TE) (t : TL) : TL := fun σ H R => te σ H fun v H1 => t σ H1 fun C vs H2 => R C (v :: vs) H2
def tlLam (T : List (Addr × Str)) (q : Str) (n : Nat) (tb : TE) (put : L2.St → List V → L2.St) : TL := fun σ H R => Tabs T H ∧ ∀ (f c' : Addr) (H2 : Hp) (C : Addr → Sp → Prop), ExtN H H2 → Tabs T H2 → H2 c' = some (CodeO c' q) →
  C f (fun vs HZ Q _ => vs.length = n ∧ HZ c' = some (CodeO c' q) ∧ tb (put σ vs) HZ Q) → R C [.ref f] H2
/-- x(e, .., lambda p: body) -/
def tCallL (sp : (Addr → Sp → Prop) → Sp) (E : XK) (t : TL) : TE := fun σ H Q => t σ H fun C vs H1 => sp C vs H1 Q E
section
variable {X : Cx} {T : List (Addr × Str)} {k kc kb : Nat} {x : Str} {g c P : Addr} {fd : FuncData} {ps lp : List Str} {sp : (Addr → Sp → Prop) → Sp} {E : XK} {te tb : TE} {t : TL} {e body : Expr} {es : List Expr} {params : Arguments} {scope : Scope} {p lpos pos : Pos} {put : L2.St → List V → L2.St}
theorem pl_cons (he : PE X e te) (h : PL X kc es t) (hs : starEach (e :: es) X.env = (false, eval e X.env) :: starEach es X.env := by rfl) : PL X kc (e :: es) (tlCons te t) := by
  refine ⟨fun pos pins s σ H R I q => ?_⟩
  rw [hs]
  exact Calls.spliced_cons (thn (he.run pins s σ H _ I q) fun u s1 ⟨v, H1, I1, r1, q1⟩ => thn (h.run pos pins s1 σ H1 _ I1 q1) fun us s2 ⟨vs, H2, I2, r2, q2⟩ => ⟨v :: vs, H2, I2, .cons r1 r2, q2⟩)
theorem pl_lam (TB : TabB X.base X.mg c P) (hcode : X.env.code = .ref c) (hmT : (P, X.env.qual ++ "<lambda>") ∈ T) (hu : ∀ p ∈ T, p.1 = P → p.2 = X.env.qual ++ "<lambda>") (L : LamP X.env.scope scope lp) (hdef : defaultsOf params X.env = ([], [])) (hkc : kc = kb + 1)
    (hbind : ∀ (q : Str) (cl : List (Str × Addr)) (pm cv ctv : Value) (us : List Value), us.length = lp.length → bindArgs (PySem.W.kla_fn "<lambda>" q params body scope cl pm cv ctv) ⟨us, []⟩ = pure (lp.zip us))
    (hput : ∀ (σ : L2.St) vs us, Vals vs us → us.length = lp.length → Slots X lp us σ (put σ vs))
    (hbody : ∀ (A : Around) (outer : List Env) (s : Shared) (H : Hp) (E : XK) (f c' : Addr), Room kb (A.deeper (lamEnv X scope s.heap.objs.size f c')) → PE (lamCx X A outer s H E scope f c') body tb) :
    PL X kc [.Lambda params body scope lpos] (tlLam T (X.env.qual ++ "<lambda>") lp.length tb put) := by
  subst hkc
  refine ⟨fun pos pins s σ H R I h => ?_⟩
  obtain ⟨hT, h⟩ := h
  show wpAny _ _ (spliced ((false, eval (.Lambda params body scope lpos) X.env) :: backTo pos (starEach [] X.env))) _ _ s
  refine Calls.spliced_cons (lam_make2 I TB hcode hmT hu hT hdef (L.has I.ok) fun f c' pm' ctv H1 s' I1 eN T1 hf hfn hfr hco => ?_)
  refine Calls.spliced_nil ⟨[.ref f], H1, I1, .cons rfl .nil, h f c' H1 _ eN T1 hco ?_⟩
  have C := clo_of (put := put σ) I1 L hf hfn hfr (hbind _ _ _ _ _) (hput σ) fun A outer s H E hr => hbody A outer s H E f c' hr
  exact C
theorem pe_callL (F : FnC X.prog X.w X.K X.mg X.base k g fd ps kc sp) (hr : Room k X.A) (hg : Gl X x) (hm : X.mg x = some (.ref g)) (hk : PySem.W.keepIn X.K (.ref g) = true) (hb : L2.Binds X.K fd ps []) (hx : Passes CX0 X E) (ha : PL X kc (e :: es) t)
    (hdb : (x == ("__debug__" : Str)) = false := by decide) (he : starEach (e :: es) X.env = (false, eval e X.env) :: starEach es X.env := by rfl) (hpl : (backTo pos (starEach es X.env)).any (·.1) = false := by rfl) :
    PE X (.Call (.Name x p) (e :: es) [] pos) (tCallL sp E t) := by
  refine ⟨fun pins s σ H Q I h => ?_⟩
  refine wpAny_Call_Name_kw (ld_glob I hg hm ?_ hdb)
  refine PySem.W.callWith_K (h₀ := X.base) I.ok.mod.kin hk (thn (ha.run pos pins s σ H _ I h) fun us s1 ⟨vs, H1, I1, r, q⟩ => ⟨I1.kIn, ?_⟩) he hpl
  have hl : (us ++ []).length = ps.length := by rw [List.append_nil, ← r.length]; exact F.len _ _ _ _ _ q
  have b := hb s1 us I1.kIn hl
  rw [List.append_nil] at b
  refine wpAny_call (codeAny_mono (F.run X.A X.stack s1 H1 ⟨us, []⟩ us vs Q E hr I1.env0 b r q) fun r s' z => ?_)
  match r, z with
  | .error v, z => exact hx pins σ H1 s1 v s' I1 z
  | .ok (.ret u), z => exact I1.after z
  | .ok .next, z => exact z.elim
  | .ok .brk, z => exact z.elim
  | .ok .cont, z => exact z.elim
end
/-! ### a maker of lambdas by its body: its code object is the one at c -/
section
variable {P : Program} {w : World} {K : PySem.W.Frag} {mg : Str → Option Value} {base : Heap}
theorem okM {x qual : Str} {st : Stmt} {f c : Addr} {fd : FuncData} {N ps : List Str} {k : Nat} {sp : Sp} (F : Fun K x qual st f fd) (hc : fd.code = .ref c) (S : FnScope N ps (defScope st)) (len : ∀ vs H Q E, sp vs H Q E → vs.length = ps.length)
    (hb : ∀ (A : Around) (out : List Env) (s : Shared) (H : Hp) (vs : List V) (Q : VK) (E : XK), Room k (A.deeper (envOfC qual (defScope st) s.heap.objs.size f (.ref c))) → sp vs H Q E →
      ∃ t, PSs (cxOf (L2.CX P w) P w K mg base N qual (defScope st) f (.ref c) A out s H E) (defBody st) t ∧ t { nx := fun _ H' => Q .non H', rt := Q } (start N vs) H) : FnOk P w K mg base (L2.CX P w) (k + 1) f fd ps sp := by
  obtain ⟨_, _, _, _, _, _, cdv, _, _, rfl, lk, hcd⟩ := F.ex
  have e : cdv = .ref c := hc
  subst e
  exact fn_of lk hcd S len fun A out s H vs Q E hr h => hb A out s H vs Q E hr h
end
theorem u65 {k : Nat} {A : PySem.Around} (h : L2.Room k A) : A.units + 65 < PySem.cLine := by have := h.un; omega
section
variable {σ : L2.St} {H : Hp}
theorem callL {sp : (Addr → Sp → Prop) → Sp} {E : XK} {t : TL} {Q : VK} (h : t σ H fun C vs H1 => sp C vs H1 Q E) : tCallL sp E t σ H Q := h
theorem lcons {te : TE} {t : TL} {R : (Addr → Sp → Prop) → List V → Hp → Prop} (h : te σ H fun v H1 => t σ H1 fun C vs H2 => R C (v :: vs) H2) : tlCons te t σ H R := h
theorem llam {T : List (Addr × Str)} {q : Str} {n : Nat} {tb : TE} {put : L2.St → List V → L2.St} {R : (Addr → Sp → Prop) → List V → Hp → Prop} (hT : Tabs T H) (h : ∀ (f c' : Addr) (H2 : Hp) (C : Addr → Sp → Prop), ExtN H H2 → Tabs T H2 → H2 c' = some (CodeO c' q) →
  C f (fun vs HZ Q _ => vs.length = n ∧ HZ c' = some (CodeO c' q) ∧ tb (put σ vs) HZ Q) → R C [.ref f] H2) : tlLam T q n tb put σ H R := ⟨hT, h⟩
theorem seq_ext {K : PySem.W.Frag} {H H' : Hp} (e : ExtN H H') {a : Addr} {xs : List V} (h : SqL K H a xs) : SqL K H' a xs := by
  rcases h with (h | ⟨o, h⟩) | h
  · exact .inl (.inl (e _ _ h fun _ q => nomatch q))
  · exact .inl (.inr ⟨o, e _ _ h fun _ q => nomatch q⟩)
  · exact .inr h
theorem tup_ext {K : PySem.W.Frag} {H H' : Hp} (e : ExtN H H') {a : Addr} {xs : List V} (h : SqT K H a xs) : SqT K H' a xs := by
  rcases h with (h | ⟨o, h⟩) | h
  · exact .inl (.inl (e _ _ h fun _ q => nomatch q))
  · exact .inl (.inr ⟨o, e _ _ h fun _ q => nomatch q⟩)
  · exact .inr h
theorem row_ext {K : PySem.W.Frag} {H H' : Hp} (e : ExtN H H') {a : Addr} {xs : List V} (h : Ru.SqR K H a xs) : Ru.SqR K H' a xs := h.imp (seq_ext e) (tup_ext e)
theorem row_same {K : PySem.W.Frag} {H H' : Hp} (s : Same H H') {a : Addr} {xs : List V} (h : Ru.SqR K H a xs) : Ru.SqR K H' a xs := h.imp s.seq (Ru.same_tup s)
theorem lst_ext {H H' : Hp} (e : ExtN H H') {a : Addr} {xs : List V} (h : H a = some (.lst xs)) : H' a = some (.lst xs) := e _ _ h fun _ q => nomatch q
theorem tp_ext {H H' : Hp} (e : ExtN H H') {a : Addr} {xs : List V} (h : H a = some (.tup xs)) : H' a = some (.tup xs) := e _ _ h fun _ q => nomatch q
theorem ins_ext {H H' : Hp} (e : ExtN H H') {a C dx : Addr} {fs : List (Str × V)} (h : H a = some (.ins C dx fs)) : H' a = some (.ins C dx fs) := e _ _ h fun _ q => nomatch q
theorem ext_same {H H1 H2 : Hp} (e : ExtN H H1) (s : Same H1 H2) : ExtN H H2 := e.trans (ExtN.of s)
theorem same_ext {H H1 H2 : Hp} (s : Same H H1) (e : ExtN H1 H2) : ExtN H H2 := (ExtN.of s).trans e
end
theorem catA {K : PySem.W.Frag} {H : Hp} {a b : Addr} {xs ys : List V} {Q : VK} (h1 : SqT K H a xs) (h2 : SqT K H b ys) (hy : ys ≠ []) (hz : xs.length + ys.length ≤ sizeLine) (k : ∀ (r : Addr) (G : Hp), Same H G → SqT K G r (xs ++ ys) → Q (.ref r) G) : rCatA K (.ref a) (.ref b) H Q :=
  ⟨a, b, xs, ys, rfl, rfl, h1, h2, hz, fun e => k b H (Same.refl _) (by rw [e]; exact h2), fun _ e => absurd e hy, fun _ _ p n => k p _ (Rd.same_upd n) (.of upd_same)⟩
/-- all but lists are kept -/
def NoL (H H' : Hp) : Prop := ∀ b o, H b = some o → (∀ xs, o ≠ .lst xs) → H' b = some o
theorem NoL.same {H H' : Hp} (s : Same H H') : NoL H H' := fun b o e _ => s b o e
theorem NoL.off {H H' : Hp} {l : Addr} {xs : List V} (h : H l = some (.lst xs)) (off : ∀ b, b ≠ l → H' b = H b) : NoL H H' := fun b o e n => by
  rw [off b fun q => n xs (by rw [q, h] at e; exact (Option.some.inj e).symm)]
  exact e
theorem NoL.but {H H' : Hp} {t : Addr} {xs : List V} (h : H t = some (.lst xs)) (b : Rd.But t H H') : NoL H H' := fun a o e n => by
  exact b a o (fun q => n _ (by rw [q, h] at e; exact (Option.some.inj e).symm)) e
theorem NoL.trans {H H1 H2 : Hp} (a : NoL H H1) (b : NoL H1 H2) : NoL H H2 := fun x o e n => b x o (a x o e n) n
theorem NoL.tup {H H' : Hp} (n : NoL H H') {a : Addr} {xs : List V} (h : H a = some (.tup xs)) : H' a = some (.tup xs) := n _ _ h fun _ q => nomatch q
theorem NoL.ins {H H' : Hp} (n : NoL H H') {a C dx : Addr} {fs : List (Str × V)} (h : H a = some (.ins C dx fs)) : H' a = some (.ins C dx fs) := n _ _ h fun _ q => nomatch q
theorem tabs_nol {T : List (Addr × Str)} {H H' : Hp} (t : Tabs T H) (e : NoL H H') : Tabs T H' := fun p hp => by
  obtain ⟨ps, h1, h2, h3⟩ := t p hp
  refine ⟨ps, (e _ _ h1 fun _ q => nomatch q), h2, fun pos cv hc => ?_⟩
  obtain ⟨c, e1, e2⟩ := h3 pos cv hc
  exact ⟨c, e1, e _ _ e2 fun xs q => by
    unfold CodeO at q
    cases q⟩
/-- enumerate(list), in a comprehension -/
theorem walk_enum {K : PySem.W.Frag} {a : Addr} {xs : List V} : Walk (Ite K a) xs.length (fun H => SqL K H a xs) (fun i H v H' => ∃ T x, v = .ref T ∧ H T = none ∧ H' = upd H T (.tup [.int (i : Nat), x]) ∧ xs[i]? = some x) where
  goes i H l h := ⟨xs, xs[i], h, List.getElem?_eq_getElem l⟩
  stops H h := ⟨xs, h, Nat.le_refl _⟩
  yields i H v H' l h y := by
    obtain ⟨T, x, rfl, hT, rfl, q⟩ := y
    exact ⟨T, x, rfl, hT, rfl, q xs h⟩
/-- the table of a code object of the part K -/
theorem tab_K {K : PySem.W.Frag} {h : Heap} {c P : Addr} (X : K.In h) (e : PySem.W.codeHdIn K c P = true) : PySem.W.CodeHd h c P := PySem.W.codeHd_of_K X e
end Rk

/-! f-strings; texts cut at a blank, split at the ends of rows and joined again. -/
namespace Rf
open PySem PySem.Spec PyProof.Rows L2 Rd
variable {D : Ends} {σ : L2.St} {H H' : Hp} {K : PySem.W.Frag}
theorem empty_app (a : Str) : Str.empty ++ a = a := TL.ext_tl (by rw [TL.tl_append]; rfl)
/-- f"{a}c{b}" of two texts that stand in variables -/
theorem row3 {i j : Nat} {a b c : Str} {R : Str → Hp → Prop} (ha : σ[i]? = some (some (.str a))) (hb : σ[j]? = some (some (.str b))) (l : a.length + b.length + c.length ≤ 100000) (q : R (a ++ c ++ b) H) : tJs [tFmt (tVar i), tC (.str c), tFmt (tVar j)] Str.empty σ H R := by
  have s := sizeLine_eq
  have e1 : (a ++ c).length = a.length + c.length := Array.size_append
  have e2 : (a ++ c ++ b).length = (a ++ c).length + b.length := Array.size_append
  refine ⟨_, ha, .inl ⟨a, rfl, by omega, a, rfl, by rw [empty_app]; omega, _, rfl, ?_, ?_⟩⟩
  · rw [empty_app]
    omega
  · rw [empty_app]
    exact ⟨_, hb, .inl ⟨b, rfl, by omega, b, rfl, by omega, q⟩⟩
theorem tyS {z : Str} {R : Prop} (r : R) : tyV K "str" (.str z) H ∧ R := ⟨rfl, r⟩
def PartQ : V → List V → Hp → VK → Prop := fun x xs H Q => ∃ a b, x = .str a ∧ xs = [.str b] ∧ (b.length == 0) = false ∧ a.length ≤ sizeLine ∧ NewQ (.tup [.str (Txt.partition a b).1, .str (Txt.partition a b).2.1, .str (Txt.partition a b).2.2]) Q H
theorem mt_part {X : Cx} : MtR X "str.partition" PartQ := mt_partition
theorem partS {z : Str} {Q : VK} (l : z.length ≤ 1000000) (k : ∀ (p : Addr) (G : Hp), H p = none → G p = some (.tup [.str (Txt.partition z " ").1, .str (Txt.partition z " ").2.1, .str (Txt.partition z " ").2.2]) → Same H G → Q (.ref p) G) : PartQ (.str z) [.str " "] H Q :=
  ⟨z, " ", rfl, rfl, by decide +kernel, by rw [sizeLine_eq]; omega, Rd.new k⟩
def SwQ : V → List V → Hp → VK → Prop := fun x xs H Q => ∃ a b, x = .str a ∧ xs = [.str b] ∧ Q (.bl (Txt.startswith a b)) H
theorem mt_sw {X : Cx} : MtR X "str.startswith" SwQ := mt_startswith
theorem splitS {z c : Str} {Q : VK} (n : (c.length == 0) = false) (l : z.length ≤ 1000000) (k : ∀ (D : Addr) (G : Hp), H D = none → G D = some (.lst ((Txt.split z c).map V.str)) → Same H G → Q (.ref D) G) :
    ∃ a b : Str, V.str z = .str a ∧ [V.str c] = [V.str b] ∧ (b.length == 0) = false ∧ a.length + 2 ≤ sizeLine ∧ rNewStrs (Txt.split a b) H Q :=
  ⟨z, c, rfl, rfl, n, by rw [sizeLine_eq]; omega, fun p n => k p _ n upd_same (Rd.same_upd n)⟩
theorem swS {z y : Str} {Q : VK} (q : Q (.bl (Txt.startswith z y)) H) : SwQ (.str z) [.str y] H Q := ⟨z, y, rfl, rfl, q⟩
theorem for_enumL {a : Addr} {xs : List V} {g : TG} {tb : TS} {ta : TA} (ea : ∀ Q, Q [.ref a] H → ta σ H Q) (Pv : Nat → L2.St → Hp → Prop) (h0 : Pv 0 σ H) (hl : ∀ i σ H, i ≤ xs.length → Pv i σ H → SqL K H a xs)
    (hs : ∀ i x σ H (T : Addr), xs[i]? = some x → Pv i σ H → H T = none → g (.ref T) σ (upd H T (.tup [.int (i : Nat), x])) fun σ2 H2 => tb { D with nx := Pv (i + 1), ct := Pv (i + 1), bk := D.nx } σ2 H2) (hd : ∀ σ H, Pv xs.length σ H → D.nx σ H) :
    tFor (iEnum K ta) g tb D σ H := ea _ ⟨a, _, rfl, hl 0 σ H (Nat.zero_le _) h0, Ru.for_enum (K := K) (a := a) (xs := xs) Pv h0 hl hs hd⟩
/-! ### a row cut at its first blank -/
theorem tl_blank : TL.tl (" " : Str) = [32] := by decide +kernel
theorem tl_nl : TL.tl ("\n" : Str) = [10] := by decide +kernel
theorem tl_on : TL.tl ("on" : Str) = [111, 110] := by decide +kernel
theorem tl_back : TL.tl ("back" : Str) = [98, 97, 99, 107] := by decide +kernel
theorem tl_onb : TL.tl ("on " : Str) = [111, 110, 32] := by decide +kernel
theorem tl_backb : TL.tl ("back " : Str) = [98, 97, 99, 107, 32] := by decide +kernel
theorem blank_cases (r : Str) : (32 ∉ TL.tl r ∧ Txt.partition r " " = (r, Str.empty, Str.empty)) ∨ ∃ a b : Str, r = a ++ " " ++ b ∧ 32 ∉ TL.tl a ∧ Txt.partition r " " = (a, (" " : Str), b) := by
  by_cases m : 32 ∈ TL.tl r
  · obtain ⟨p, q, e, n⟩ := List.eq_append_cons_of_mem m
    have er : r = (⟨p.toArray⟩ : Str) ++ " " ++ (⟨q.toArray⟩ : Str) := TL.ext_tl (by
      rw [TL.tl_append, TL.tl_append, tl_blank]
      show TL.tl r = p ++ [32] ++ q
      rw [e, List.append_assoc]
      rfl)
    refine .inr ⟨⟨p.toArray⟩, ⟨q.toArray⟩, er, n, ?_⟩
    rw [er]
    exact TL.partition_app tl_blank n
  · exact .inl ⟨m, TL.partition_none tl_blank m⟩
theorem sw_iff (x y : Str) : Txt.startswith x y = true ↔ (TL.tl x).take (TL.tl y).length = TL.tl y := by
  unfold PySem.Txt.startswith
  rw [Bool.and_eq_true, decide_eq_true_iff, PySem.StrLaws.subAt_eq, List.drop_zero, beq_iff_eq, TL.len_tl y, TL.len_tl x, Nat.zero_add]
  constructor
  · exact fun h => h.2
  · intro h
    refine ⟨?_, h⟩
    have := congrArg List.length h
    rw [List.length_take] at this
    omega
/-- a row a, a blank, b begins with y and a blank if a is y -/
theorem sw_app {a b : Str} (m : 32 ∉ TL.tl a) {y z : Str} (ez : TL.tl z = TL.tl y ++ [32]) (hy : 32 ∉ TL.tl y) : Txt.startswith (a ++ " " ++ b) z = true ↔ a = y := by
  have tl : TL.tl (a ++ " " ++ b) = TL.tl a ++ 32 :: TL.tl b := by
    rw [TL.tl_append, TL.tl_append, tl_blank]
    simp
  have key : ∀ (y : List Nat), 32 ∉ y → ∀ (A B : List Nat), 32 ∉ A → ((A ++ 32 :: B).take (y ++ [32]).length = y ++ [32] ↔ A = y) := by
    intro y
    induction y with
    | nil =>
      intro _ A B hA
      cases A with
      | nil => simp
      | cons c A =>
        simp only [List.mem_cons, not_or] at hA
        simp
        exact fun h => hA.1 h.symm
    | cons d y ih =>
      intro hy A B hA
      simp only [List.mem_cons, not_or] at hy
      cases A with
      | nil =>
        simp
        exact fun h => absurd h hy.1
      | cons c A =>
        simp only [List.mem_cons, not_or] at hA
        have := ih hy.2 A B hA.2
        simp only [List.cons_append, List.length_cons, List.take_succ_cons, List.cons.injEq, this]
  rw [sw_iff, tl, ez, key _ hy _ _ m]
  exact ⟨TL.ext_tl, fun h => by rw [h]⟩
theorem back_on : ¬ ("back" : Str) = ("on" : Str) := by decide +kernel
theorem sw_on (w : Str) : Txt.startswith ("on" ++ " " ++ w) "on " = true ∧ Txt.startswith ("on" ++ " " ++ w) "back " = false := by
  have m : 32 ∉ TL.tl ("on" : Str) := by rw [tl_on]; decide
  refine ⟨(sw_app m (y := "on") (by rw [tl_onb, tl_on]; rfl) m).mpr rfl, ?_⟩
  cases h : Txt.startswith ("on" ++ " " ++ w) "back " with
  | false => rfl
  | true => exact absurd ((sw_app m (y := "back") (by rw [tl_backb, tl_back]; rfl) (by rw [tl_back]; decide)).mp h).symm back_on
theorem sw_back (w : Str) : Txt.startswith ("back" ++ " " ++ w) "on " = false ∧ Txt.startswith ("back" ++ " " ++ w) "back " = true := by
  have m : 32 ∉ TL.tl ("back" : Str) := by rw [tl_back]; decide
  refine ⟨?_, (sw_app m (y := "back") (by rw [tl_backb, tl_back]; rfl) m).mpr rfl⟩
  cases h : Txt.startswith ("back" ++ " " ++ w) "on " with
  | false => rfl
  | true => exact absurd ((sw_app m (y := "on") (by rw [tl_onb, tl_on]; rfl) (by rw [tl_on]; decide)).mp h) back_on
/-- a row that begins with on or back and a blank, or neither -/
theorem row_cases (r : Str) : (∃ w, r = "on" ++ " " ++ w ∧ Txt.partition r " " = (("on" : Str), (" " : Str), w) ∧ Txt.startswith r "on " = true) ∨
    (∃ w, r = "back" ++ " " ++ w ∧ Txt.partition r " " = (("back" : Str), (" " : Str), w) ∧ Txt.startswith r "on " = false ∧ Txt.startswith r "back " = true) ∨
    (Txt.startswith r "on " = false ∧ Txt.startswith r "back " = false ∧ ∃ a b c, Txt.partition r " " = (a, b, c) ∧ a.length ≤ r.length ∧ c.length ≤ r.length ∧ ((a ≠ ("on" : Str) ∧ a ≠ ("back" : Str)) ∨ c.length = 0)) := by
  rcases blank_cases r with ⟨m, e⟩ | ⟨a, b, rfl, m, e⟩
  · have no : ∀ y : Str, 32 ∈ TL.tl y → Txt.startswith r y = false := fun y hy => by
      cases h : Txt.startswith r y with
      | false => rfl
      | true =>
        have := (sw_iff r y).mp h
        rw [← this] at hy
        exact absurd (List.mem_of_mem_take hy) m
    exact .inr (.inr ⟨no _ (by rw [tl_onb]; decide), no _ (by rw [tl_backb]; decide), r, _, _, e, Nat.le_refl _, Nat.zero_le _, .inr rfl⟩)
  · have tl : TL.tl (a ++ " " ++ b) = TL.tl a ++ 32 :: TL.tl b := by
      rw [TL.tl_append, TL.tl_append, tl_blank]
      simp
    have la : a.length ≤ (a ++ " " ++ b).length := by
      rw [TL.len_tl, TL.len_tl, tl, List.length_append]
      omega
    have lb : b.length ≤ (a ++ " " ++ b).length := by
      rw [TL.len_tl, TL.len_tl, tl, List.length_append, List.length_cons]
      omega
    have sw : ∀ (y z : Str), TL.tl z = TL.tl y ++ [32] → 32 ∉ TL.tl y → (Txt.startswith (a ++ " " ++ b) z = true ↔ a = y) := fun y z ez hy => sw_app m ez hy
    have s1 := sw "on" "on " (by rw [tl_onb, tl_on]; rfl) (by rw [tl_on]; decide)
    have s2 := sw "back" "back " (by rw [tl_backb, tl_back]; rfl) (by rw [tl_back]; decide)
    have ne : ¬ ("back" : Str) = ("on" : Str) := by decide +kernel
    by_cases c1 : a = ("on" : Str)
    · subst c1
      exact .inl ⟨b, rfl, e, s1.mpr rfl⟩
    · have f1 : Txt.startswith (a ++ " " ++ b) "on " = false := by
        cases h : Txt.startswith (a ++ " " ++ b) "on " with
        | false => rfl
        | true => exact absurd (s1.mp h) c1
      by_cases c2 : a = ("back" : Str)
      · subst c2
        exact .inr (.inl ⟨b, rfl, e, f1, s2.mpr rfl⟩)
      · have f2 : Txt.startswith (a ++ " " ++ b) "back " = false := by
          cases h : Txt.startswith (a ++ " " ++ b) "back " with
          | false => rfl
          | true => exact absurd (s2.mp h) c2
        exact .inr (.inr ⟨f1, f2, a, _, b, e, la, lb, .inl ⟨c1, c2⟩⟩)
theorem cut_app (a b : Str) : cutS (a ++ b) (some (a.length : Int)) none = b := by
  refine TL.ext_tl ?_
  show (((a ++ b).cps.toList.drop (HT.sIx (a ++ b).length 0 (some (a.length : Int)))).take _) = _
  have e : TL.tl (a ++ b) = TL.tl a ++ TL.tl b := TL.tl_append a b
  have l : (a ++ b).length = a.length + b.length := Array.size_append
  rw [HT.sIx_nat, l, show min a.length (a.length + b.length) = a.length by omega]
  show ((TL.tl (a ++ b)).drop a.length).take (a.length + b.length - a.length) = TL.tl b
  rw [e, TL.len_tl a, List.drop_left, ← TL.len_tl a, show a.length + b.length - a.length = b.length by omega, TL.len_tl b, List.take_length]
theorem cut_on (w : Str) : cutS ("on" ++ " " ++ w) (some 3) none = w := cut_app ("on" ++ " ") w
theorem cut_back (w : Str) : cutS ("back" ++ " " ++ w) (some 5) none = w := cut_app ("back" ++ " ") w
/-- rows joined, and one more -/
theorem joinL_snoc (S : List Nat) (p : List Nat) : ∀ ps : List (List Nat), TL.joinL S (ps ++ [p]) = if ps = [] then p else TL.joinL S ps ++ (S ++ p)
  | [] => rfl
  | [q] => rfl
  | q :: q2 :: ps => by
    have h := joinL_snoc S p (q2 :: ps)
    rw [if_neg (by simp)] at h
    rw [if_neg (by simp)]
    show q ++ (S ++ TL.joinL S (q2 :: ps ++ [p])) = q ++ (S ++ TL.joinL S (q2 :: ps)) ++ (S ++ p)
    rw [h]
    simp only [List.append_assoc]
theorem join_snoc (ys : List Str) (y : Str) (n : ys ≠ []) : Txt.join "\n" (ys ++ [y]) = Txt.join "\n" ys ++ "\n" ++ y := by
  refine TL.ext_tl ?_
  rw [TL.join_eq, TL.join_eq, TL.tl_append, TL.tl_append, TL.tl_join, TL.tl_join, List.map_append]
  show TL.joinL _ (ys.map TL.tl ++ [TL.tl y]) = _
  rw [joinL_snoc, if_neg (fun e => n (List.map_eq_nil_iff.mp e)), List.append_assoc]
theorem join_one (y : Str) : Txt.join "\n" [y] = y := rfl
theorem app_assoc (a b c : Str) : a ++ b ++ c = a ++ (b ++ c) := TL.ext_tl (by rw [TL.tl_append, TL.tl_append, TL.tl_append, TL.tl_append, List.append_assoc])
/-! ### split and joined -/
theorem join_split (z : Str) : Txt.join "\n" (Txt.split z "\n") = z := by
  unfold PySem.Txt.split
  split
  · rfl
  · split
    · rfl
    · exact PySem.StrLaws.glued_between_self z "\n" (z.length + 1)
theorem nl_len : (("\n" : Str)).length = 1 := by decide +kernel
theorem split_ne (z c : Str) : Txt.split z c ≠ [] := by
  unfold PySem.Txt.split
  split
  · simp
  · split
    · simp
    · intro e
      have := congrArg List.length e
      rw [PySem.length_partsBetween] at this
      simp at this
theorem split_wt (z : Str) : ((Txt.split z "\n").map (·.length)).sum + (Txt.split z "\n").length = z.length + 1 := by
  have e := congrArg Str.length (join_split z)
  have e2 : (Txt.join "\n" (Txt.split z "\n")).length = ((Txt.split z "\n").map (·.length)).sum + ((Txt.split z "\n").length - 1) * (("\n" : Str)).length := PySem.size_glued _ _
  rw [nl_len, Nat.mul_one] at e2
  have := List.length_pos_iff.mpr (split_ne z "\n")
  omega
theorem join_len (ys : List Str) : (Txt.join "\n" ys).length ≤ (ys.map (·.length)).sum + ys.length := by
  have e : (Txt.join "\n" ys).length = (ys.map (·.length)).sum + (ys.length - 1) * (("\n" : Str)).length := PySem.size_glued _ _
  rw [nl_len, Nat.mul_one] at e
  omega
theorem sum_mem {y : Str} : ∀ {ys : List Str}, y ∈ ys → y.length ≤ (ys.map (·.length)).sum
  | x :: ys, m => by
    rw [List.map_cons, List.sum_cons]
    rcases List.mem_cons.mp m with rfl | m
    · omega
    · have := sum_mem m
      omega
theorem split_mem {z r : Str} (m : r ∈ Txt.split z "\n") : r.length ≤ z.length := by
  have := sum_mem m
  have := split_wt z
  have := List.length_pos_iff.mpr (split_ne z "\n")
  omega
theorem split_len (z : Str) : (Txt.split z "\n").length ≤ z.length + 1 := by
  have := split_wt z
  omega
theorem split_rows {ys : List Str} (n : ys ≠ []) (h : ∀ y ∈ ys, 10 ∉ TL.tl y) : Txt.split (Txt.join "\n" ys) "\n" = ys := TL.split_join tl_nl (by decide +kernel) n h
end Rf

namespace W
open PySem PySem.Spec PyProof.Rows L2
def top (i : Nat) : Stmt := PySem.Challenge.pw_watchedways_k21_whole_sayings_hold.main.body.getD i (.Pass ⟨0, 0, 0, 0⟩)
abbrev s_is_letters : Stmt := top 11
abbrev s_is_word : Stmt := top 12
abbrev s_is_watch : Stmt := top 13
abbrev s_check_word : Stmt := top 14
abbrev s_Book_init : Stmt := inClass (top 17) 0
abbrev s_check_book : Stmt := top 18
abbrev s_links_of : Stmt := top 20
abbrev s_distances : Stmt := top 21
abbrev s_shortest : Stmt := top 22
abbrev s_step_cost : Stmt := top 24
abbrev s_calm_costs : Stmt := top 23
abbrev s_calmest : Stmt := top 25
abbrev s_steps_between : Stmt := top 32
abbrev s_rule_by : Stmt := top 33
abbrev s_rule : Stmt := top 34
abbrev s_is_step : Stmt := top 29
abbrev s_are_steps : Stmt := top 30
abbrev s_check_steps : Stmt := top 31
abbrev s_calm_rule : Stmt := top 35
abbrev s_clause : Stmt := top 37
abbrev s_saying_of : Stmt := top 38
abbrev s_saying : Stmt := top 39
abbrev s_l_tape : Stmt := top 41
abbrev s_l_pick : Stmt := top 42
abbrev s_l_letters : Stmt := top 44
abbrev s_l_word : Stmt := top 45
abbrev s_l_watch : Stmt := top 46
abbrev s_l_watches : Stmt := top 47
abbrev s_l_roads : Stmt := top 49
abbrev s_l_pairs : Stmt := top 50
abbrev s_l_clauses : Stmt := top 51
abbrev s_l_holds : Stmt := top 52
abbrev s_law : Stmt := top 53
theorem sc_is_letters : FnScope ["value", "letter"] ["value"] (defScope s_is_letters) := ⟨rfl, rfl, rfl, by decide +kernel, rfl, by decide +kernel, by decide +kernel⟩
theorem sc_is_word : FnScope ["thing"] ["thing"] (defScope s_is_word) := ⟨rfl, rfl, rfl, by decide +kernel, rfl, by decide +kernel, by decide +kernel⟩
theorem sc_is_watch : FnScope ["thing"] ["thing"] (defScope s_is_watch) := ⟨rfl, rfl, rfl, by decide +kernel, rfl, by decide +kernel, by decide +kernel⟩
theorem sc_check_word : FnScope ["word"] ["word"] (defScope s_check_word) := ⟨rfl, rfl, rfl, by decide +kernel, rfl, by decide +kernel, by decide +kernel⟩
theorem sc_Book_init : FnScope ["self", "watches", "found", "at", "watch"] ["self", "watches"] (defScope s_Book_init) := ⟨rfl, rfl, rfl, by decide +kernel, rfl, by decide +kernel, by decide +kernel⟩
theorem sc_check_book : FnScope ["book"] ["book"] (defScope s_check_book) := ⟨rfl, rfl, rfl, by decide +kernel, rfl, by decide +kernel, by decide +kernel⟩
theorem sc_links_of : FnScope ["watches", "word", "spot", "found", "watch", "row"] ["watches", "word"] (defScope s_links_of) := ⟨rfl, rfl, rfl, by decide +kernel, rfl, by decide +kernel, by decide +kernel⟩
theorem sc_distances : FnScope ["links", "found", "row", "later", "spot", "other"] ["links"] (defScope s_distances) := ⟨rfl, rfl, rfl, by decide +kernel, rfl, by decide +kernel, by decide +kernel⟩
theorem sc_shortest : FnScope ["watches", "word", "links", "far", "found", "spot", "other"] ["watches", "word"] (defScope s_shortest) := ⟨rfl, rfl, rfl, by decide +kernel, rfl, by decide +kernel, by decide +kernel⟩
theorem sc_step_cost : FnScope ["costs", "spot", "up", "other", "way", "ahead"] ["costs", "spot", "up", "other"] (defScope s_step_cost) := ⟨rfl, rfl, rfl, by decide +kernel, rfl, by decide +kernel, by decide +kernel⟩
theorem sc_calm_costs : FnScope ["links", "last", "costs", "changed", "spot", "up", "best", "other", "cost"] ["links"] (defScope s_calm_costs) := ⟨rfl, rfl, rfl, by decide +kernel, rfl, by decide +kernel, by decide +kernel⟩
theorem sc_calmest : FnScope ["book", "word", "links", "costs", "found", "up", "spot", "left", "other"] ["book", "word"] (defScope s_calmest) := ⟨rfl, rfl, rfl, by decide +kernel, rfl, by decide +kernel, by decide +kernel⟩
theorem sc_steps_between : FnScope ["word", "spots", "steps", "one", "other"] ["word", "spots"] (defScope s_steps_between) := ⟨rfl, rfl, rfl, by decide +kernel, rfl, by decide +kernel, by decide +kernel⟩
theorem sc_rule_by : FnScope ["watches", "word", "spots"] ["watches", "word"] (defScope s_rule_by) := ⟨rfl, rfl, rfl, by decide +kernel, rfl, by decide +kernel, by decide +kernel⟩
theorem sc_rule : FnScope ["book", "word"] ["book", "word"] (defScope s_rule) := ⟨rfl, rfl, rfl, by decide +kernel, rfl, by decide +kernel, by decide +kernel⟩
theorem sc_is_step : FnScope ["thing"] ["thing"] (defScope s_is_step) := ⟨rfl, rfl, rfl, by decide +kernel, rfl, by decide +kernel, by decide +kernel⟩
theorem sc_are_steps : FnScope ["thing", "step"] ["thing"] (defScope s_are_steps) := ⟨rfl, rfl, rfl, by decide +kernel, rfl, by decide +kernel, by decide +kernel⟩
theorem sc_check_steps : FnScope ["rule"] ["rule"] (defScope s_check_steps) := ⟨rfl, rfl, rfl, by decide +kernel, rfl, by decide +kernel, by decide +kernel⟩
theorem sc_calm_rule : FnScope ["book", "word", "spots"] ["book", "word"] (defScope s_calm_rule) := ⟨rfl, rfl, rfl, by decide +kernel, rfl, by decide +kernel, by decide +kernel⟩
theorem sc_clause : FnScope ["way", "watch", "place", "at"] ["way", "watch", "place", "at"] (defScope s_clause) := ⟨rfl, rfl, rfl, by decide +kernel, rfl, by decide +kernel, by decide +kernel⟩
theorem sc_saying_of : FnScope ["steps", "place", "parts", "at", "step"] ["steps"] (defScope s_saying_of) := ⟨rfl, rfl, rfl, by decide +kernel, rfl, by decide +kernel, by decide +kernel⟩
theorem sc_saying : FnScope ["rule"] ["rule"] (defScope s_saying) := ⟨rfl, rfl, rfl, by decide +kernel, rfl, by decide +kernel, by decide +kernel⟩
theorem sc_l_tape : FnScope ["_law_script"] ["_law_script"] (defScope s_l_tape) := ⟨rfl, rfl, rfl, by decide +kernel, rfl, by decide +kernel, by decide +kernel⟩
theorem sc_l_pick : FnScope ["_law_tape_here", "_law_size", "_law_digit", "_law_cell", "_law_mixed"] ["_law_tape_here", "_law_size"] (defScope s_l_pick) := ⟨rfl, rfl, rfl, by decide +kernel, rfl, by decide +kernel, by decide +kernel⟩
theorem sc_l_letters : FnScope ["_law_tape_here", "_law_many", "_law_start", "_law_step", "_law_k"] ["_law_tape_here", "_law_many"] (defScope s_l_letters) := ⟨rfl, rfl, rfl, by decide +kernel, rfl, by decide +kernel, by decide +kernel⟩
theorem sc_l_word : FnScope ["_law_tape_here", "_law_most", "_law_size", "_law_kind", "_law_letters_here", "_law_part", "_law_k"] ["_law_tape_here", "_law_most"] (defScope s_l_word) := ⟨rfl, rfl, rfl, by decide +kernel, rfl, by decide +kernel, by decide +kernel⟩
theorem sc_l_watch : FnScope ["_law_tape_here", "_law_word_here", "_law_most", "_law_size", "_law_at", "_law_k"] ["_law_tape_here", "_law_word_here", "_law_most"] (defScope s_l_watch) := ⟨rfl, rfl, rfl, by decide +kernel, rfl, by decide +kernel, by decide +kernel⟩
theorem sc_l_watches : FnScope ["_law_tape_here", "_law_word_here", "_law_many", "_law_most", "_law_found", "_law_low", "_law_high", "_law_piece", "_law_k", "_law_watch_here"] ["_law_tape_here", "_law_word_here", "_law_many", "_law_most"] (defScope s_l_watches) := ⟨rfl, rfl, rfl, by decide +kernel, rfl, by decide +kernel, by decide +kernel⟩
theorem sc_l_roads : FnScope ["_law_tape_here", "_law_word_here", "_law_many", "_law_share", "_law_roads_here", "_law_letter", "_law_pairs_here", "_law_p", "_law_q"] ["_law_tape_here", "_law_word_here"] (defScope s_l_roads) := ⟨rfl, rfl, rfl, by decide +kernel, rfl, by decide +kernel, by decide +kernel⟩
theorem sc_l_pairs : FnScope ["_law_many", "_law_roads_here", "_law_word_here", "_law_found", "_law_p", "_law_front", "_law_letter", "_law_q", "_law_r"] ["_law_many", "_law_roads_here", "_law_word_here"] (defScope s_l_pairs) := ⟨rfl, rfl, rfl, by decide +kernel, rfl, by decide +kernel, by decide +kernel⟩
theorem sc_l_clauses : FnScope ["_law_text", "_law_found", "_law_place", "_law_k", "_law_fresh", "_law_head", "_law_colon", "_law_rest", "_law_watch_here", "_law_mark", "_law_behind", "_law_inside", "_law_middle"] ["_law_text"] (defScope s_l_clauses) := ⟨rfl, rfl, rfl, by decide +kernel, rfl, by decide +kernel, by decide +kernel⟩
theorem sc_l_holds : FnScope ["_law_many", "_law_roads_here", "_law_clauses_here", "_law_rows", "_law_last", "_law_found", "_law_ends", "_law_y", "_law_good", "_law_word_here", "_law_watch_here", "_law_pairs_here", "_law_p", "_law_x", "_law_q"] ["_law_many", "_law_roads_here", "_law_clauses_here"] (defScope s_l_holds) := ⟨rfl, rfl, rfl, by decide +kernel, rfl, by decide +kernel, by decide +kernel⟩
theorem sc_law : FnScope ["_law_script", "_law_tape_here", "_law_word_here", "_law_watches_here", "_law_book", "_law_steps", "_law_calm", "_law_turn", "_law_many", "_law_roads_here", "_law_due", "_law_told", "_law_clauses_here", "_law_watch_here"] ["_law_script"] (defScope s_law) := ⟨rfl, rfl, rfl, by decide +kernel, rfl, by decide +kernel, by decide +kernel⟩
structure Txt (w : World) (K : PySem.W.Frag) (mg : Str → Option Value) where
  q_OTHER : Addr
  es_OTHER : Array DictEntry
  sz_OTHER : Nat
  m_OTHER : mg "OTHER" = some (.ref q_OTHER)
  D_OTHER : KDict K w q_OTHER es_OTHER sz_OTHER
  kt_OTHER_0 : Tok
  kv_OTHER_0 : PySem.W.nsIn K q_OTHER "on" = some (some (.str "back" kt_OTHER_0))
  kt_OTHER_1 : Tok
  kv_OTHER_1 : PySem.W.nsIn K q_OTHER "back" = some (some (.str "on" kt_OTHER_1))
  C_Book : Addr
  c_Book : mg "Book" = some (.ref C_Book)
  cl_Book : Cls K C_Book
  ty_Book : OwnTy K C_Book
  na_Book_watches : NoAttr K C_Book "watches"
  f_is_letters : Addr
  fd_is_letters : FuncData
  F_is_letters : Fun K "is_letters" "is_letters" s_is_letters f_is_letters fd_is_letters
  g_is_letters : mg "is_letters" = some (.ref f_is_letters)
  b_is_letters : Binds K fd_is_letters ["value"] []
  f_is_word : Addr
  fd_is_word : FuncData
  F_is_word : Fun K "is_word" "is_word" s_is_word f_is_word fd_is_word
  g_is_word : mg "is_word" = some (.ref f_is_word)
  b_is_word : Binds K fd_is_word ["thing"] []
  f_is_watch : Addr
  fd_is_watch : FuncData
  F_is_watch : Fun K "is_watch" "is_watch" s_is_watch f_is_watch fd_is_watch
  g_is_watch : mg "is_watch" = some (.ref f_is_watch)
  b_is_watch : Binds K fd_is_watch ["thing"] []
  f_check_word : Addr
  fd_check_word : FuncData
  F_check_word : Fun K "check_word" "check_word" s_check_word f_check_word fd_check_word
  g_check_word : mg "check_word" = some (.ref f_check_word)
  b_check_word : Binds K fd_check_word ["word"] []
  f_Book_init : Addr
  fd_Book_init : FuncData
  F_Book_init : Fun K "__init__" "Book.__init__" s_Book_init f_Book_init fd_Book_init
  M_Book : Mk K C_Book f_Book_init
  b_Book_init : Binds K fd_Book_init ["self", "watches"] []
  f_check_book : Addr
  fd_check_book : FuncData
  F_check_book : Fun K "check_book" "check_book" s_check_book f_check_book fd_check_book
  g_check_book : mg "check_book" = some (.ref f_check_book)
  b_check_book : Binds K fd_check_book ["book"] []
  f_links_of : Addr
  fd_links_of : FuncData
  F_links_of : Fun K "links_of" "links_of" s_links_of f_links_of fd_links_of
  g_links_of : mg "links_of" = some (.ref f_links_of)
  b_links_of : Binds K fd_links_of ["watches", "word"] []
  f_distances : Addr
  fd_distances : FuncData
  F_distances : Fun K "distances" "distances" s_distances f_distances fd_distances
  g_distances : mg "distances" = some (.ref f_distances)
  b_distances : Binds K fd_distances ["links"] []
  f_shortest : Addr
  fd_shortest : FuncData
  F_shortest : Fun K "shortest" "shortest" s_shortest f_shortest fd_shortest
  g_shortest : mg "shortest" = some (.ref f_shortest)
  b_shortest : Binds K fd_shortest ["watches", "word"] []
  f_step_cost : Addr
  fd_step_cost : FuncData
  F_step_cost : Fun K "step_cost" "step_cost" s_step_cost f_step_cost fd_step_cost
  g_step_cost : mg "step_cost" = some (.ref f_step_cost)
  b_step_cost : Binds K fd_step_cost ["costs", "spot", "up", "other"] []
  f_calm_costs : Addr
  fd_calm_costs : FuncData
  F_calm_costs : Fun K "calm_costs" "calm_costs" s_calm_costs f_calm_costs fd_calm_costs
  g_calm_costs : mg "calm_costs" = some (.ref f_calm_costs)
  b_calm_costs : Binds K fd_calm_costs ["links"] []
  f_calmest : Addr
  fd_calmest : FuncData
  F_calmest : Fun K "calmest" "calmest" s_calmest f_calmest fd_calmest
  g_calmest : mg "calmest" = some (.ref f_calmest)
  b_calmest : Binds K fd_calmest ["book", "word"] []
  f_steps_between : Addr
  fd_steps_between : FuncData
  F_steps_between : Fun K "steps_between" "steps_between" s_steps_between f_steps_between fd_steps_between
  g_steps_between : mg "steps_between" = some (.ref f_steps_between)
  b_steps_between : Binds K fd_steps_between ["word", "spots"] []
  f_rule_by : Addr
  fd_rule_by : FuncData
  F_rule_by : Fun K "rule_by" "rule_by" s_rule_by f_rule_by fd_rule_by
  g_rule_by : mg "rule_by" = some (.ref f_rule_by)
  b_rule_by : Binds K fd_rule_by ["watches", "word"] []
  f_rule : Addr
  fd_rule : FuncData
  F_rule : Fun K "rule" "rule" s_rule f_rule fd_rule
  g_rule : mg "rule" = some (.ref f_rule)
  b_rule : Binds K fd_rule ["book", "word"] []
  f_is_step : Addr
  fd_is_step : FuncData
  F_is_step : Fun K "is_step" "is_step" s_is_step f_is_step fd_is_step
  g_is_step : mg "is_step" = some (.ref f_is_step)
  b_is_step : Binds K fd_is_step ["thing"] []
  f_are_steps : Addr
  fd_are_steps : FuncData
  F_are_steps : Fun K "are_steps" "are_steps" s_are_steps f_are_steps fd_are_steps
  g_are_steps : mg "are_steps" = some (.ref f_are_steps)
  b_are_steps : Binds K fd_are_steps ["thing"] []
  f_check_steps : Addr
  fd_check_steps : FuncData
  F_check_steps : Fun K "check_steps" "check_steps" s_check_steps f_check_steps fd_check_steps
  g_check_steps : mg "check_steps" = some (.ref f_check_steps)
  b_check_steps : Binds K fd_check_steps ["rule"] []
  f_calm_rule : Addr
  fd_calm_rule : FuncData
  F_calm_rule : Fun K "calm_rule" "calm_rule" s_calm_rule f_calm_rule fd_calm_rule
  g_calm_rule : mg "calm_rule" = some (.ref f_calm_rule)
  b_calm_rule : Binds K fd_calm_rule ["book", "word"] []
  f_clause : Addr
  fd_clause : FuncData
  F_clause : Fun K "clause" "clause" s_clause f_clause fd_clause
  g_clause : mg "clause" = some (.ref f_clause)
  b_clause : Binds K fd_clause ["way", "watch", "place", "at"] []
  f_saying_of : Addr
  fd_saying_of : FuncData
  F_saying_of : Fun K "saying_of" "saying_of" s_saying_of f_saying_of fd_saying_of
  g_saying_of : mg "saying_of" = some (.ref f_saying_of)
  b_saying_of : Binds K fd_saying_of ["steps"] []
  f_saying : Addr
  fd_saying : FuncData
  F_saying : Fun K "saying" "saying" s_saying f_saying fd_saying
  g_saying : mg "saying" = some (.ref f_saying)
  b_saying : Binds K fd_saying ["rule"] []
  f_l_tape : Addr
  fd_l_tape : FuncData
  F_l_tape : Fun K "_law_tape" "_law_tape" s_l_tape f_l_tape fd_l_tape
  g_l_tape : mg "_law_tape" = some (.ref f_l_tape)
  b_l_tape : Binds K fd_l_tape ["_law_script"] []
  f_l_pick : Addr
  fd_l_pick : FuncData
  F_l_pick : Fun K "_law_pick" "_law_pick" s_l_pick f_l_pick fd_l_pick
  g_l_pick : mg "_law_pick" = some (.ref f_l_pick)
  b_l_pick : Binds K fd_l_pick ["_law_tape_here", "_law_size"] []
  f_l_letters : Addr
  fd_l_letters : FuncData
  F_l_letters : Fun K "_law_letters" "_law_letters" s_l_letters f_l_letters fd_l_letters
  g_l_letters : mg "_law_letters" = some (.ref f_l_letters)
  b_l_letters : Binds K fd_l_letters ["_law_tape_here", "_law_many"] []
  f_l_word : Addr
  fd_l_word : FuncData
  F_l_word : Fun K "_law_word" "_law_word" s_l_word f_l_word fd_l_word
  g_l_word : mg "_law_word" = some (.ref f_l_word)
  b_l_word : Binds K fd_l_word ["_law_tape_here", "_law_most"] []
  f_l_watch : Addr
  fd_l_watch : FuncData
  F_l_watch : Fun K "_law_watch" "_law_watch" s_l_watch f_l_watch fd_l_watch
  g_l_watch : mg "_law_watch" = some (.ref f_l_watch)
  b_l_watch : Binds K fd_l_watch ["_law_tape_here", "_law_word_here", "_law_most"] []
  f_l_watches : Addr
  fd_l_watches : FuncData
  F_l_watches : Fun K "_law_watches" "_law_watches" s_l_watches f_l_watches fd_l_watches
  g_l_watches : mg "_law_watches" = some (.ref f_l_watches)
  b_l_watches : Binds K fd_l_watches ["_law_tape_here", "_law_word_here", "_law_many", "_law_most"] []
  f_l_roads : Addr
  fd_l_roads : FuncData
  F_l_roads : Fun K "_law_roads" "_law_roads" s_l_roads f_l_roads fd_l_roads
  g_l_roads : mg "_law_roads" = some (.ref f_l_roads)
  b_l_roads : Binds K fd_l_roads ["_law_tape_here", "_law_word_here"] []
  f_l_pairs : Addr
  fd_l_pairs : FuncData
  F_l_pairs : Fun K "_law_pairs" "_law_pairs" s_l_pairs f_l_pairs fd_l_pairs
  g_l_pairs : mg "_law_pairs" = some (.ref f_l_pairs)
  b_l_pairs : Binds K fd_l_pairs ["_law_many", "_law_roads_here", "_law_word_here"] []
  f_l_clauses : Addr
  fd_l_clauses : FuncData
  F_l_clauses : Fun K "_law_clauses" "_law_clauses" s_l_clauses f_l_clauses fd_l_clauses
  g_l_clauses : mg "_law_clauses" = some (.ref f_l_clauses)
  b_l_clauses : Binds K fd_l_clauses ["_law_text"] []
  f_l_holds : Addr
  fd_l_holds : FuncData
  F_l_holds : Fun K "_law_holds" "_law_holds" s_l_holds f_l_holds fd_l_holds
  g_l_holds : mg "_law_holds" = some (.ref f_l_holds)
  b_l_holds : Binds K fd_l_holds ["_law_many", "_law_roads_here", "_law_clauses_here"] []
  f_law : Addr
  fd_law : FuncData
  F_law : Fun K "law" "law" s_law f_law fd_law
  g_law : mg "law" = some (.ref f_law)
  b_law : Binds K fd_law ["_law_script"] []
  n_isinstance : mg "isinstance" = none
  n_str : mg "str" = none
  n_all : mg "all" = none
  n_len : mg "len" = none
  n_enumerate : mg "enumerate" = none
  n_tuple : mg "tuple" = none
  n_list : mg "list" = none
  n_range : mg "range" = none
  n_sorted : mg "sorted" = none
  n_int : mg "int" = none
  n_zip : mg "zip" = none
  n_min : mg "min" = none
  t_LETTERS : Tok
  m_LETTERS : mg "LETTERS" = some (.str "abcdefghijklmnopqrstuvwxyz" t_LETTERS)
  t_MOST_WORD : Tok
  m_MOST_WORD : mg "MOST_WORD" = some (.int 40 t_MOST_WORD)
  t_MOST_WATCH : Tok
  m_MOST_WATCH : mg "MOST_WATCH" = some (.int 12 t_MOST_WATCH)
  t_MOST_WATCHES : Tok
  m_MOST_WATCHES : mg "MOST_WATCHES" = some (.int 12 t_MOST_WATCHES)
  t_MOST_STEPS : Tok
  m_MOST_STEPS : mg "MOST_STEPS" = some (.int 80 t_MOST_STEPS)
end W

local macro_rules | `(tactic| walk_at "rd") => `(tactic| repeat (first
  | with_reducible refine Rd.seq ?_ | with_reducible refine Rd.asg ?_ | with_reducible refine Rd.name ?_ | with_reducible refine Rd.var rfl ?_ | with_reducible refine Rd.con ?_ | with_reducible refine Rd.op ?_
  | with_reducible refine Rd.ret ?_ | with_reducible refine Rd.ifS ?_ | with_reducible refine Rd.test ?_ | with_reducible refine Rd.tstB ?_ | with_reducible refine Rd.bl ?_ | with_reducible refine Rd.blE ?_
  | with_reducible refine Rd.nil ?_ | with_reducible refine Rd.cons ?_ | with_reducible refine Rd.cb ?_ | with_reducible refine Rd.call ?_ | with_reducible refine Rd.un ?_
  | with_reducible refine Rd.i0 ?_ | with_reducible refine Rd.u1 ?_ | with_reducible refine Rd.eqI ?_ | with_reducible refine Rd.neI ?_ | with_reducible refine Rd.eqB ?_ | with_reducible refine Rd.neB ?_ | with_reducible refine Rd.eqS ?_ | with_reducible refine Rd.neS ?_
  | with_reducible refine Rd.and ?_ | with_reducible refine Rd.or ?_ | with_reducible refine Rd.not ?_ | with_reducible refine Rd.andV ?_ | with_reducible refine Rd.orV ?_ | with_reducible refine Rd.notV ?_ | with_reducible refine Rd.ifE ?_ | with_reducible refine Rd.chain ?_
  | with_reducible refine Rd.tup ?_ | with_reducible refine Rd.lst ?_ | with_reducible refine Rd.nxt ?_ | with_reducible refine Rd.retN ?_ | with_reducible refine Rd.drop ?_ | with_reducible refine Rd.brk ?_ | with_reducible refine Rd.cont ?_
  | with_reducible refine Rd.a1 ?_ | with_reducible refine Rd.a2 ?_ | with_reducible refine Rd.v2 ?_ | with_reducible refine Rd.int ?_ | with_reducible refine Rd.abs ?_ | with_reducible refine Rd.max2 ?_ | with_reducible refine Rd.min2 ?_ | with_reducible refine Rd.bm ?_ | with_reducible refine Rd.bm0 ?_ | with_reducible refine Rd.sl ?_ | with_reducible refine Rd.part ?_ | with_reducible refine Rd.noPart ?_ | with_reducible refine Rd.intE ?_ | with_reducible refine Rd.revL ?_ | with_reducible refine Rd.enx ?_ | with_reducible refine Rd.ebk ?_ | with_reducible refine Rd.ect ?_ | with_reducible refine Rd.ert ?_ | with_reducible refine Rd.gcons ?_ | with_reducible refine Rd.gnil ?_ | with_reducible refine Rd.par ?_ | with_reducible refine Rd.sub ?_ | with_reducible refine Rd.iter ?_ | with_reducible refine Rd.iterT ?_ | with_reducible refine Rd.rng1 ?_ | with_reducible refine Rd.refE ?_ | with_reducible refine Rd.aug rfl ?_ | with_reducible refine Rd.ipi ?_ | with_reducible refine Rd.lc ?_ | with_reducible refine Rd.tyes ?_ | with_reducible refine Rd.fldH ?_ | with_reducible refine Rd.sfldH ?_ | with_reducible refine Rd.mkH ?_ | with_reducible refine Rd.methH ?_ | with_reducible refine Rd.istr ?_ | with_reducible refine Rd.strE ?_ | with_reducible refine Rd.lstRg ?_ | with_reducible refine Rd.m1 ?_ | with_reducible refine Rd.dgetH ?_ | with_reducible refine Rd.dinH ?_ | with_reducible refine Rd.dninH ?_ | with_reducible refine Rd.dget1H ?_ | with_reducible refine Rd.strX ?_ | with_reducible refine Rd.tupRg ?_ | with_reducible refine Rd.rg1 ?_ | with_reducible refine Rd.rg2 ?_ | with_reducible refine Rd.intE2 ?_ | with_reducible refine Rw.zipH ?_ | with_reducible refine Rw.itemsH ?_ | with_reducible refine Rw.keysH ?_ | with_reducible refine Rw.dc ?_ | with_reducible refine Rw.ckw ?_ | with_reducible refine Rd.notT ?_ | with_reducible refine Rx.raiseH ?_ | with_reducible refine Rx.callS ?_ | with_reducible refine Rx.xvH ?_ | with_reducible refine Rx.rng3 ?_
  | with_reducible refine L2.iteT ?_ | with_reducible refine L2.iteF ?_
  | with_reducible refine Rd.iteb ?_ | with_reducible refine Rd.iten ?_ | with_reducible refine Rd.itbn ?_))

local macro_rules | `(tactic| walk_at "yes") => `(tactic| (refine (if_pos (by first | assumption | omega)).mpr ?_))
local macro_rules | `(tactic| walk_at "no") => `(tactic| (refine (if_neg (by first | assumption | omega)).mpr ?_))

local macro_rules | `(tactic| k_extra "ne") => `(tactic| first
  | with_reducible assumption | with_reducible exact Ne.symm (by with_reducible assumption) | with_reducible exact Rd.ntT (by with_reducible assumption) (by k_extra "tape")
  | with_reducible exact Rd.neN (by with_reducible assumption) (by k_extra "at") | with_reducible exact Rd.neN' (by with_reducible assumption) (by k_extra "at"))
local macro_rules | `(tactic| k_extra "tape") => `(tactic| first
  | with_reducible assumption | with_reducible exact Rd.tape_same (by with_reducible assumption) (by k_extra "tape"))
local macro_rules | `(tactic| k_extra "at") => `(tactic| first
  | with_reducible assumption
  | with_reducible exact Rd.at_same (by with_reducible assumption) (by k_extra "at")
  | with_reducible exact Rd.at_off (by with_reducible assumption) (by k_extra "ne") (by k_extra "at")
  | with_reducible exact Rd.at_but (by with_reducible assumption) (by k_extra "ne") (by k_extra "at"))
local macro_rules | `(tactic| k_extra "bk") => `(tactic| first
  | with_reducible assumption
  | with_reducible exact Rd.book_same (by with_reducible assumption) (by k_extra "bk")
  | with_reducible exact Rd.book_but (by with_reducible assumption) (by k_extra "tape") (by k_extra "bk"))
local macro_rules | `(tactic| k_extra "sqL") => `(tactic| first
  | with_reducible assumption | with_reducible exact L2.Same.seq (by with_reducible assumption) (by k_extra "sqL"))
local macro_rules | `(tactic| k_extra "sqT") => `(tactic| first
  | with_reducible assumption | with_reducible exact Ru.same_tup (by with_reducible assumption) (by k_extra "sqT"))
local macro_rules | `(tactic| k_extra "sq") => `(tactic| first
  | with_reducible assumption | (with_reducible show L2.SqL _ _ _ _; first | exact L2.SqL.of (by k_extra "at") | k_extra "sqL") | (with_reducible show L2.SqT _ _ _ _; first | exact L2.SqT.of (by k_extra "at") | k_extra "sqT"))
local macro_rules | `(tactic| k_extra "row") => `(tactic| first
  | with_reducible assumption | exact Or.inl (L2.SqL.of (by k_extra "at")) | exact Or.inr (L2.SqT.of (by k_extra "at")) | exact Or.inl (by k_extra "sqL") | exact Or.inr (by k_extra "sqT"))
local macro_rules | `(tactic| k_extra "same") => `(tactic| first
  | with_reducible exact L2.Same.refl _ | with_reducible assumption
  | with_reducible exact Rd.same_tr (by with_reducible assumption) (by k_extra "same")
  | with_reducible exact Rd.same_of2 (by with_reducible assumption) (by with_reducible assumption) (by k_extra "same"))
local macro_rules | `(tactic| k_extra "but") => `(tactic| first
  | with_reducible exact Rd.But.refl _ _ | with_reducible assumption
  | with_reducible exact Rd.but_tr (by with_reducible assumption) (by k_extra "but")
  | with_reducible exact Rd.but_sm (by with_reducible assumption) (by k_extra "but")
  | with_reducible exact Rd.but_of2 (by with_reducible assumption) (by with_reducible assumption) (by k_extra "but"))
local macro_rules | `(tactic| k_extra "sz") => `(tactic| first
  | with_reducible assumption | with_reducible exact Lt.Wd.line (by with_reducible assumption) (by decide) | (rw [PySem.sizeLine_eq]; omega)
  | (simp only [List.length_map, List.length_append, List.length_cons, List.length_nil, List.length_take] <;> rw [PySem.sizeLine_eq] <;> omega) | exact Nat.le_of_ble_eq_true rfl)
local macro_rules | `(tactic| k_extra "go1") => `(tactic| first
  | (with_reducible show Rd.nLenS _ _ _; refine Rd.lenStr (by k_extra "sz") ?_)
  | (with_reducible show Rd.nLen _ _ _ _; first | refine Rd.lenS (by k_extra "row") ?_ | refine Rd.lenI (by k_extra "row") ?_ | refine Rd.lenR (by k_extra "row") ?_)
  | (with_reducible show L2.rSlS _ _ _ _ _; refine Rd.slS (by k_extra "sz") ?_)
  | (with_reducible show L2.tyV _ "list" _ _ ∧ _; refine Rd.tyL (by k_extra "sq") ?_)
  | (with_reducible show Rd.nAddS _ _ _ _; refine Rd.addS (by k_extra "sz") ?_)
  | (with_reducible show L2.rIsi _ _ _ _; first | with_reducible refine Rd.isiStr ?_ | with_reducible refine Rd.isiB ?_ | with_reducible refine Rd.isiI ?_ | with_reducible refine Rd.isiIB ?_ | (first | with_reducible refine Rx.askInt (by with_reducible assumption) ?_ | with_reducible refine Rx.askBl (by with_reducible assumption) ?_ | with_reducible refine Rx.askStr (by with_reducible assumption) ?_ | with_reducible refine Rx.askLst (by with_reducible assumption) ?_ | with_reducible refine Rx.askTup (by with_reducible assumption) ?_ | with_reducible refine Rx.askDct (by with_reducible assumption) ?_))
  | (with_reducible show L2.rIn _ _ _ _ _ _; first | refine Rd.inStrsY (by k_extra "row") ?_ | refine Rd.inStrsN (by k_extra "row") ?_ | refine Rd.inIntsY (by k_extra "row") ?_ | refine Rd.inIntsN (by k_extra "row") ?_)
  | with_reducible refine And.intro (Eq.refl L2.V.non) ?_ | with_reducible refine Rd.ifN ?_ | with_reducible refine Rd.ifR ?_ | with_reducible refine Rd.ifI ?_ | with_reducible refine Rd.ifT ?_)
local macro_rules | `(tactic| walk_at "go") => `(tactic| (walk_at "rd"; repeat (k_extra "go1"; walk_at "rd")))
local macro_rules | `(tactic| walk_at "ifs") => `(tactic| (walk_at "go"; repeat (first | (refine Rd.no (by decide) ?_; walk_at "go") | (refine Rd.yes (by decide) ?_; walk_at "go"))))

namespace W
open PySem PySem.Spec PyProof.Rows L2
section
variable {P : Program} {w : World} {K : PySem.W.Frag} {mg : Str → Option Value} {base : Heap}
/-! ### the tape: a list of the cells (never written) and four ints; what is drawn lies below the size -/
/-- a tape stands at t, its cells at c -/
def sp_l_tape (K : PySem.W.Frag) : Sp := fun vs H Q _ => ∃ (a : Addr) (ns : List Int), vs = [.ref a] ∧ SqL K H a (ns.map V.int) ∧ ∀ t c H', Tape H' t c → Same H H' → H t = none → H c = none → Q (.ref t) H'
def sp_l_pick (K : PySem.W.Frag) : Sp := fun vs H Q _ => ∃ (t c : Addr) (n : Int), vs = [.ref t, .int n] ∧ Tape H t c ∧ 0 < n ∧ n < 1073741824 ∧ ∀ r H', 0 ≤ r → r < n → Tape H' t c → Rd.But t H H' → Q (.int r) H'
theorem ok_l_tape (T : Txt w K mg) : FnOk P w K mg base CX0 1 T.f_l_tape T.fd_l_tape ["_law_script"] (sp_l_tape K) := by
  refine T.F_l_tape.ok sc_l_tape (fun vs H Q E h => ?_) (fun cdv A outer s H vs Q E hr h => ?_)
  · obtain ⟨a, ns, rfl, _⟩ := h
    rfl
  · obtain ⟨a, ns, rfl, hS, k⟩ := h
    refine ⟨_, (pss_one (ps_ret (pe_lst (pa_cons (pe_callTy (T := "list") (r := Rd.nListOf K) Rd.c_listOf (by rfl) T.n_list (by decide +kernel) (pa_cons (pv 0) pa_nil)) (pa_cons pe_int (pa_cons pe_int (pa_cons pe_int (pa_cons pe_int pa_nil)))))))), ?_⟩
    walk_at "rd"
    refine Rd.listOf (.inl hS) (Rd.new fun c G hc gc s1 => ?_)
    walk_at "rd"
    refine ⟨Nat.le_of_ble_eq_true rfl, Rd.new fun t G2 ht gt s2 => ?_⟩
    have tc : c ≠ t := ne_of_none gc ht
    exact k t c _ ⟨ns, 0, 0, 1, 0, tc.symm, gt, s2 _ _ gc, by decide, by omega, by decide, by decide⟩ (s1.trans s2) (s1.free ht) hc
theorem ok_l_pick (T : Txt w K mg) : FnOk P w K mg base CX0 1 T.f_l_pick T.fd_l_pick ["_law_tape_here", "_law_size"] (sp_l_pick K) := by
  refine T.F_l_pick.ok sc_l_pick (fun vs H Q E h => ?_) (fun cdv A outer s H vs Q E hr h => ?_)
  · obtain ⟨t, c, n, rfl, _⟩ := h
    rfl
  · obtain ⟨t, c, n, rfl, ⟨ns, x, y, z, u, tc, h1, h2, x0, x1, z0, z1⟩, n0, n1, k⟩ := h
    refine ⟨_, (pss_cons (ps_if (pt_cmpR op_gt (pe_ix (r := rIxL K) ix_list (pv 0) pe_int (fun _ _ => rfl)) pe_int (nomark _))
  (pss_cons (ps_set (i := 2) sc_l_pick.nd rfl (.inl rfl) (pe_op op_mod (pe_callTy (T := "int") (r := _) Rd.c_int (by rfl) T.n_int (by decide +kernel) (pa_cons (pe_ix (r := rIxL K) ix_list (pv 0) pe_int (fun _ _ => rfl)) pa_nil)) (pv 1)))
  (pss_cons (ps_asg (pe_op op_fdiv (pe_ix (r := rIxL K) ix_list (pv 0) pe_int (fun _ _ => rfl)) (pv 1)) (pg_sub (pv 0) pe_int set_list))
  (pss_one (ps_ret (pv 2)))))
  pss_nil)
  (pss_cons (ps_asg (pe_op op_add (pe_ix (r := rIxL K) ix_list (pv 0) pe_int (fun _ _ => rfl)) pe_int) (pg_sub (pv 0) pe_int set_list))
  (pss_cons (ps_set (i := 3) sc_l_pick.nd rfl (.inl rfl) pe_int)
  (C8.pss_cut (ps_if (pt_cmpR op_lt (pe_ix (r := rIxL K) ix_list (pv 0) pe_int (fun _ _ => rfl)) (pe_callB (id := "len") (r := Rd.nLen K) Rd.c_len (by rfl) T.n_len (by decide +kernel) (pa_cons (pe_ix ix_list (pv 0) pe_int (fun _ _ => rfl)) pa_nil)) (nomark _))
  (pss_cons (ps_set (i := 3) sc_l_pick.nd rfl (.inl rfl) (pe_ix (r := rIxL K) ix_list (pe_ix ix_list (pv 0) pe_int (fun _ _ => rfl)) (pe_ix (r := rIxL K) ix_list (pv 0) pe_int (fun _ _ => rfl)) (fun _ _ => rfl)))
  (pss_one (ps_asg (pe_op op_add (pe_ix (r := rIxL K) ix_list (pv 0) pe_int (fun _ _ => rfl)) pe_int) (pg_sub (pv 0) pe_int set_list))))
  pss_nil)
  (pss_cons (ps_if (pt_cmpR op_ge (pv 3) (pe_op op_pow pe_int pe_int) (nomark _))
  (pss_cons (ps_asg (pe_op op_fdiv (pv 3) (pv 1)) (pg_sub (pv 0) pe_int set_list))
  (pss_one (ps_ret (pe_op op_mod (pe_callTy (T := "int") (r := _) Rd.c_int (by rfl) T.n_int (by decide +kernel) (pa_cons (pv 3) pa_nil)) (pv 1)))))
  pss_nil)
  (pss_cons (ps_set (i := 4) sc_l_pick.nd rfl (.inl rfl) (pe_op op_mod (pe_callTy (T := "int") (r := _) Rd.c_int (by rfl) T.n_int (by decide +kernel) (pa_cons (pe_op op_add (pe_op op_add (pe_op op_mul (pe_ix (r := rIxL K) ix_list (pv 0) pe_int (fun _ _ => rfl)) pe_int) (pe_op op_mod (pe_callTy (T := "int") (r := _) Rd.c_int (by rfl) T.n_int (by decide +kernel) (pa_cons (pv 3) pa_nil)) pe_int)) (pe_op op_mul (pe_ix (r := rIxL K) ix_list (pv 0) pe_int (fun _ _ => rfl)) pe_int)) pa_nil)) pe_int))
  (pss_cons (ps_set (i := 4) sc_l_pick.nd rfl (.inl rfl) (pe_op op_mod (pe_callTy (T := "int") (r := _) Rd.c_int (by rfl) T.n_int (by decide +kernel) (pa_cons (pe_op op_mul (pv 4) (pe_op op_add (pe_op op_fdiv (pv 4) pe_int) pe_int)) pa_nil)) pe_int))
  (pss_cons (ps_asg (pv 4) (pg_sub (pv 0) pe_int set_list))
  (pss_one (ps_ret (pe_op op_mod (pe_callTy (T := "int") (r := _) Rd.c_int (by rfl) T.n_int (by decide +kernel) (pa_cons (pe_op op_fdiv (pv 4) pe_int) pa_nil)) (pv 1)))))))))))), ?_⟩
    walk_at "rd"
    refine Rd.ixL (.of h1) (atI_nat (j := 2) rfl) ?_
    walk_at "rd"
    refine ite2 (fun q => ?_) (fun q => ?_)
    · walk_at "rd"
      refine Rd.ixL (.of h1) (atI_nat (j := 2) rfl) ?_
      walk_at "rd"
      refine Rd.iC n0 ?_
      walk_at "rd"
      refine Rd.ixL (.of h1) (atI_nat (j := 2) rfl) ?_
      walk_at "rd"
      refine Rd.iC ⟨n0, n1⟩ ?_
      walk_at "rd"
      refine Rd.setG h1 (show ixN 5 2 = some 2 by decide) rfl fun G g1 gb => ?_
      walk_at "rd"
      exact k _ _ (Int.emod_nonneg _ (by omega)) (Int.emod_lt_of_pos _ n0) ⟨ns, x, _, z, u, tc, g1, by rw [gb _ tc.symm]; exact h2, x0, x1, z0, z1⟩ (fun b o hb e => by rw [gb b hb]; exact e)
    · walk_at "rd"
      refine Rd.ixL (.of h1) (atI_nat (j := 4) rfl) ?_
      walk_at "rd"
      refine Rd.setG h1 (show ixN 5 4 = some 4 by decide) rfl fun G g1 gb => ?_
      have g2 : G c = some (.lst (ns.map V.int)) := by rw [gb _ tc.symm]; exact h2
      walk_at "rd"
      -- the cell m is read (or 0)
      refine Rd.cut (fun σ G' => ∃ x' m : Int, σ = [some (.ref t), some (.int n), none, some (.int m), none] ∧ 0 ≤ x' ∧ x' ≤ ns.length ∧ G' t = some (.lst [.ref c, .int x', .int y, .int z, .int (u + 1)]) ∧ (∀ b, b ≠ t → G' b = H b)) ?_ ?_
      · walk_at "rd"
        refine Rd.ixL (.of g1) (atI_nat (j := 1) rfl) ?_
        walk_at "rd"
        refine Rd.ixL (.of g1) (atI_nat (j := 0) rfl) ?_
        walk_at "rd"
        refine Rd.len (.inl (.of g2)) ?_
        rw [List.length_map]
        walk_at "rd"
        refine ite2 (fun q2 => ?_) (fun q2 => ?_)
        · walk_at "rd"
          refine Rd.ixL (.of g1) (atI_nat (j := 0) rfl) ?_
          walk_at "rd"
          refine Rd.ixL (.of g1) (atI_nat (j := 1) rfl) ?_
          have hx : x.toNat < ns.length := by omega
          refine Rd.ixL (.of g2) (Rd.atI_of x0 (Rd.map_int hx)) ?_
          walk_at "rd"
          refine Rd.ixL (.of g1) (atI_nat (j := 1) rfl) ?_
          walk_at "rd"
          refine Rd.setG g1 (show ixN 5 1 = some 1 by decide) rfl fun G2 k1 kb => ?_
          walk_at "rd"
          exact ⟨x + 1, _, rfl, by omega, by omega, k1, fun b hb => (kb b hb).trans (gb b hb)⟩
        · walk_at "rd"
          exact ⟨x, 0, rfl, x0, x1, g1, gb⟩
      · rintro _ G' ⟨x', m, rfl, x'0, x'1, e1, eb⟩
        have e2 : G' c = some (.lst (ns.map V.int)) := by rw [eb _ tc.symm]; exact h2
        walk_at "rd"
        refine Rd.iC ⟨by decide, by decide, by decide⟩ ?_
        walk_at "rd"
        refine ite2 (fun q2 => ?_) (fun q2 => ?_)
        · walk_at "rd"
          refine Rd.iC ⟨n0, n1⟩ ?_
          walk_at "rd"
          refine Rd.setG e1 (show ixN 5 2 = some 2 by decide) rfl fun G2 k1 kb => ?_
          walk_at "rd"
          refine Rd.iC n0 ?_
          walk_at "rd"
          exact k _ _ (Int.emod_nonneg _ (by omega)) (Int.emod_lt_of_pos _ n0) ⟨ns, x', _, z, u + 1, tc, k1, by rw [kb _ tc.symm]; exact e2, x'0, x'1, z0, z1⟩ (fun b o hb e => by rw [kb b hb, eb b hb]; exact e)
        · walk_at "rd"
          refine Rd.ixL (.of e1) (atI_nat (j := 3) rfl) ?_
          walk_at "rd"
          refine Rd.iC (.inr (by decide)) ?_
          walk_at "rd"
          refine Rd.iC (by decide) ?_
          walk_at "rd"
          refine Rd.ixL (.of e1) (atI_nat (j := 4) rfl) ?_
          walk_at "rd"
          refine Rd.iC (.inr (by decide)) ?_
          walk_at "rd"
          refine Rd.iC (by decide) ?_
          generalize hM : (z * 48271 + m % 2147483629 + (u + 1) * 69621) % 2147483647 = M
          have M0 : 0 ≤ M := by rw [← hM]; exact Int.emod_nonneg _ (by decide)
          have M1 : M < 2147483647 := by rw [← hM]; exact Int.emod_lt_of_pos _ (by decide)
          walk_at "rd"
          refine Rd.iC ⟨by decide, by decide⟩ ?_
          walk_at "rd"
          refine Rd.iC (.inl ⟨by omega, by omega⟩) ?_
          walk_at "rd"
          refine Rd.iC (by decide) ?_
          generalize hN : M * (M / 1009 + 40692) % 2147483399 = N
          have N0 : 0 ≤ N := by rw [← hN]; exact Int.emod_nonneg _ (by decide)
          have N1 : N < 2147483399 := by rw [← hN]; exact Int.emod_lt_of_pos _ (by decide)
          walk_at "rd"
          refine Rd.setG e1 (show ixN 5 3 = some 3 by decide) rfl fun G2 k1 kb => ?_
          walk_at "rd"
          refine Rd.iC ⟨by decide, by decide⟩ ?_
          walk_at "rd"
          refine Rd.iC n0 ?_
          walk_at "rd"
          exact k _ _ (Int.emod_nonneg _ (by omega)) (Int.emod_lt_of_pos _ n0) ⟨ns, x', y, N, u + 1, tc, k1, by rw [kb _ tc.symm]; exact e2, x'0, x'1, N0, by omega⟩ (fun b o hb e => by rw [kb b hb, eb b hb]; exact e)
theorem pickR {K : PySem.W.Frag} {H : Hp} {t c : Addr} {n : Int} {Q : VK} {E : XK} (T : Tape H t c) (h0 : 0 < n) (h1 : n < 1073741824) (k : ∀ r H', 0 ≤ r → r < n → Tape H' t c → Rd.But t H H' → Q (.int r) H') : sp_l_pick K [.ref t, .int n] H Q E := ⟨t, c, n, rfl, T, h0, h1, k⟩
/-! ### what stays when only the tape is written -/
theorem but_L {K : PySem.W.Frag} {H H' : Hp} {t a : Addr} {xs : List V} (e : Rd.But t H H') (n : a ≠ t) (h : SqL K H a xs) : SqL K H' a xs := by
  rcases h with (h | ⟨o, h⟩) | h
  · exact .inl (.inl (e _ _ n h))
  · exact .inl (.inr ⟨o, e _ _ n h⟩)
  · exact .inr h
theorem but_T {K : PySem.W.Frag} {H H' : Hp} {t a : Addr} {xs : List V} (e : Rd.But t H H') (n : a ≠ t) (h : SqT K H a xs) : SqT K H' a xs := by
  rcases h with (h | ⟨o, h⟩) | h
  · exact .inl (.inl (e _ _ n h))
  · exact .inl (.inr ⟨o, e _ _ n h⟩)
  · exact .inr h
theorem but_R {K : PySem.W.Frag} {H H' : Hp} {t a : Addr} {xs : List V} (e : Rd.But t H H') (n : a ≠ t) (h : Ru.SqR K H a xs) : Ru.SqR K H' a xs := h.imp (but_L e n) (but_T e n)

end
end W

namespace W
open PySem PySem.Spec PyProof.Rows L2
section
variable {P : Program} {w : World} {K : PySem.W.Frag} {mg : Str → Option Value} {base : Heap}
/-! ### words and watches of letters -/
def sp_is_letters (K : PySem.W.Frag) : Sp := fun vs H Q _ => ∃ z : Str, vs = [.str z] ∧ Lt.Let z ∧ z.length ≤ 1000000 ∧ ∀ H', Same H H' → Q (.bl true) H'
def sp_is_word (K : PySem.W.Frag) : Sp := fun vs H Q _ => ∃ z : Str, vs = [.str z] ∧ Lt.Wd 40 z ∧ ∀ H', Same H H' → Q (.bl true) H'
def sp_is_watch (K : PySem.W.Frag) : Sp := fun vs H Q _ => ∃ z : Str, vs = [.str z] ∧ Lt.Wd 12 z ∧ ∀ H', Same H H' → Q (.bl true) H'
theorem ok_is_letters (T : Txt w K mg) : FnOk P w K mg base CX0 1 T.f_is_letters T.fd_is_letters ["value"] (sp_is_letters K) := by
  refine T.F_is_letters.ok sc_is_letters (fun vs H Q E h => ?_) (fun cdv A outer s H vs Q E hr h => ?_)
  · obtain ⟨z, rfl, _⟩ := h
    rfl
  · obtain ⟨z, rfl, hz, hl, k⟩ := h
    refine ⟨_, (pss_one (ps_ret (pe_and (pe_callB (id := "isinstance") (r := rIsi K) call_isi (by rfl) T.n_isinstance (by decide +kernel) (pa_cons (pv 0) (pa_cons (pe_bltn (v := .ty "str") (u := .type "str") (by rfl) T.n_str (by decide +kernel) rfl) pa_nil))) (pe_one (pe_callB (id := "all") (r := rAll K) (cr_all rfl) (by rfl) T.n_all (by decide +kernel) (pa_cons (pe_lc (own := [("letter", 1)]) (g := gName 1) (tt := tYes) rfl sc_is_letters.nd (pi_str (pv 0)) (blkOk_by (own := [("letter", 1)]) (N := ["value", "letter"]) (sc := defScope s_is_letters) (by decide +kernel)) (fun _ _ _ _ _ => (pg_name (i := 1) sc_is_letters.nd rfl (.inl rfl))) (fun _ _ _ _ _ => pts_nil) (fun _ _ _ _ _ => (pe_cmpR Rd.o_inC (pv 1) (pe_glob (v := .str "abcdefghijklmnopqrstuvwxyz") rfl T.m_LETTERS ⟨_, rfl⟩) rfl))) pa_nil)))))), ?_⟩
    walk_at "rd"
    refine Rd.isiStr ?_
    walk_at "rd"
    refine Rd.lcS walk_str (fun _ _ => trivial) (fun _ i acc _ => acc = (List.replicate i true).map V.bl) (fun _ _ _ _ _ => rfl) ?_ ?_
    · rintro D i x G _ acc nD hi hD sm rfl ⟨rfl, c, hc, rfl⟩
      walk_at "rd"
      refine ⟨rfl, Rd.tyes ?_⟩
      walk_at "rd"
      have hc2 : c ∈ Lt.Abc.cps.toList := hz.char (i := i) (by simpa using hc)
      refine Rd.inCT hc2 ?_
      have hi2 : i < z.length := hi
      refine Rd.lcPush hD nD sm (by rw [List.length_map, List.length_replicate, sizeLine_eq]; omega) fun G _ _ => ?_
      rw [List.replicate_succ', List.map_append]
      rfl
    · rintro D acc G nD hD sm rfl
      refine Rd.all (.of hD) ?_
      rw [show (List.replicate z.cps.size true).all id = true by simp]
      exact k _ sm
theorem ok_is_word (T : Txt w K mg) : FnOk P w K mg base CX0 2 T.f_is_word T.fd_is_word ["thing"] (sp_is_word K) := by
  refine T.F_is_word.ok sc_is_word (fun vs H Q E h => ?_) (fun cdv A outer s H vs Q E hr h => ?_)
  · obtain ⟨z, rfl, _⟩ := h
    rfl
  · obtain ⟨z, rfl, hz, k⟩ := h
    refine ⟨_, (pss_one (ps_ret (pe_and (pe_call (ok_is_letters T) (hr.mono (by decide)) rfl T.g_is_letters T.F_is_letters.kp T.b_is_letters .nil pass0 (pa_cons (pv 0) pa_nil)) (pe_one (pe_chain op_le op_le pe_int (pe_callB (id := "len") (r := _) Rd.c_lenS (by rfl) T.n_len (by decide +kernel) (pa_cons (pv 0) pa_nil)) (pe_glob (v := .int 40) rfl T.m_MOST_WORD ⟨_, rfl⟩)))))), ?_⟩
    have h0 := hz.l0
    have h1 := hz.l1
    walk_at "rd"
    refine ⟨z, rfl, hz.ok, by omega, fun H1 s1 => ?_⟩
    walk_at "rd"
    refine Rd.lenStr (hz.line (by decide)) ?_
    walk_at "rd"
    walk_at "yes"
    walk_at "rd"
    rw [decide_eq_true (by omega)]
    exact k _ s1
theorem ok_is_watch (T : Txt w K mg) : FnOk P w K mg base CX0 2 T.f_is_watch T.fd_is_watch ["thing"] (sp_is_watch K) := by
  refine T.F_is_watch.ok sc_is_watch (fun vs H Q E h => ?_) (fun cdv A outer s H vs Q E hr h => ?_)
  · obtain ⟨z, rfl, _⟩ := h
    rfl
  · obtain ⟨z, rfl, hz, k⟩ := h
    refine ⟨_, (pss_one (ps_ret (pe_and (pe_call (ok_is_letters T) (hr.mono (by decide)) rfl T.g_is_letters T.F_is_letters.kp T.b_is_letters .nil pass0 (pa_cons (pv 0) pa_nil)) (pe_one (pe_chain op_le op_le pe_int (pe_callB (id := "len") (r := _) Rd.c_lenS (by rfl) T.n_len (by decide +kernel) (pa_cons (pv 0) pa_nil)) (pe_glob (v := .int 12) rfl T.m_MOST_WATCH ⟨_, rfl⟩)))))), ?_⟩
    have h0 := hz.l0
    have h1 := hz.l1
    walk_at "rd"
    refine ⟨z, rfl, hz.ok, by omega, fun H1 s1 => ?_⟩
    walk_at "rd"
    refine Rd.lenStr (hz.line (by decide)) ?_
    walk_at "rd"
    walk_at "yes"
    walk_at "rd"
    rw [decide_eq_true (by omega)]
    exact k _ s1

end
end W

namespace W
open PySem PySem.Spec PyProof.Rows L2
section
variable {P : Program} {w : World} {K : PySem.W.Frag} {mg : Str → Option Value} {base : Heap}
def sp_check_word (K : PySem.W.Frag) : Sp := fun vs H Q _ => ∃ z : Str, vs = [.str z] ∧ Lt.Wd 40 z ∧ ∀ H', Same H H' → Q (.str z) H'
theorem ok_check_word (T : Txt w K mg) : FnOk P w K mg base CX0 4 T.f_check_word T.fd_check_word ["word"] (sp_check_word K) := by
  refine T.F_check_word.ok sc_check_word (fun vs H Q E h => ?_) (fun cdv A outer s H vs Q E hr h => ?_)
  · obtain ⟨z, rfl, _⟩ := h
    rfl
  · obtain ⟨z, rfl, hz, k⟩ := h
    refine ⟨_, (pss_cons (ps_if (pt_not (pt_val (pe_call (ok_is_word T) (hr.mono (by decide)) rfl T.g_is_word T.F_is_word.kp T.b_is_word .nil pass0 (pa_cons (pv 0) pa_nil))))
  (pss_one ps_never)
  pss_nil)
  (pss_one (ps_ret (pv 0)))), ?_⟩
    walk_at "rd"
    refine ⟨z, rfl, hz, fun H1 s1 => ?_⟩
    walk_at "rd"
    exact k _ s1

end
end W

namespace W
open PySem PySem.Spec PyProof.Rows L2
section
variable {P : Program} {w : World} {K : PySem.W.Frag} {mg : Str → Option Value} {base : Heap}
/-! ### books -/
def sp_Book_init (K : PySem.W.Frag) (C : Addr) : Sp := fun vs H Q _ => ∃ (b a : Addr) (ws : List Str), vs = [.ref b, .ref a] ∧ (∃ dx, H b = some (.ins C dx [])) ∧ Ru.SqR K H a (ws.map V.str) ∧ Watches ws ∧ ∀ H', BookAt C H' b ws → Rd.But b H H' → Q .non H'
def sp_check_book (K : PySem.W.Frag) (C : Addr) : Sp := fun vs H Q _ => ∃ (b : Addr) (ws : List Str), vs = [.ref b] ∧ BookAt C H b ws ∧ Q (.ref b) H
theorem ok_Book_init (T : Txt w K mg) : FnOk P w K mg base CX0 4 T.f_Book_init T.fd_Book_init ["self", "watches"] (sp_Book_init K T.C_Book) := by
  refine T.F_Book_init.ok sc_Book_init (fun vs H Q E h => ?_) (fun cdv A outer s H vs Q E hr h => ?_)
  · obtain ⟨b, a, ws, rfl, _⟩ := h
    rfl
  · obtain ⟨b, a, ws, rfl, ⟨dx, hb⟩, hS, L, k⟩ := h
    refine ⟨_, (pss_cons (ps_if (PW.pt (pw_or (pt_not (pt_val (pe_callB (id := "isinstance") (r := rIsiT K) call_isiT (by rfl) T.n_isinstance (by decide +kernel) (pa_cons (pv 1) (pa_cons (pe_tup (pa_cons (pe_bltn (v := .ty "list") (u := .type "list") (by rfl) T.n_list (by decide +kernel) rfl) (pa_cons (pe_bltn (v := .ty "tuple") (u := .type "tuple") (by rfl) T.n_tuple (by decide +kernel) rfl) pa_nil))) pa_nil))))) (pw_or1 (pt_cmpR op_gt (pe_callB (id := "len") (r := Rd.nLen K) Rd.c_len (by rfl) T.n_len (by decide +kernel) (pa_cons (pv 1) pa_nil)) (pe_glob (v := .int 12) rfl T.m_MOST_WATCHES ⟨_, rfl⟩) (nomark _)))))
  (pss_one ps_never)
  pss_nil)
  (pss_cons (ps_set (i := 2) sc_Book_init.nd rfl (.inl rfl) (pe_lst pa_nil))
  (pss_cons (ps_for PassesOwn.never rfl (Ru.pi_or (pi_enum (by rfl) T.n_enumerate (pa_cons (pv 1) pa_nil)) (Ru.pi_enumT (by rfl) T.n_enumerate (pa_cons (pv 1) pa_nil))) (pg_tup rfl (pgs_cons (pg_name (i := 3) sc_Book_init.nd rfl (.inl rfl)) (pgs_cons (pg_name (i := 4) sc_Book_init.nd rfl (.inl rfl)) pgs_nil)))
  (pss_cons (ps_if (PW.pt (pw_or (pt_not (pt_val (pe_call (ok_is_watch T) (hr.mono (by decide)) rfl T.g_is_watch T.F_is_watch.kp T.b_is_watch .nil pass0 (pa_cons (pv 4) pa_nil)))) (pw_or1 (pt_cmpR (r := rIn K false) op_in_seq (pv 4) (pv 2) (by rfl)))))
  (pss_one ps_never)
  pss_nil)
  (pss_one (ps_expr (pe_bm PySem.F.plainAttrs_list PySem.F.slot_list_append PySem.F.type_list_append mt_append (pv 2) (pa_cons (pv 4) pa_nil))))))
  (pss_one (ps_fld (pv 0) (pe_callTy (T := "tuple") (r := Rd.nTupOf K) Rd.c_tupOf (by rfl) T.n_tuple (by decide +kernel) (pa_cons (pv 2) pa_nil)) rfl))))), ?_⟩
    have l1 := L.l1
    walk_at "rd"
    refine ⟨Nat.le_of_ble_eq_true rfl, Rd.new fun p G hp gp sG => ?_⟩
    walk_at "rd"
    refine Ru.isRow (hS.same sG) gp ?_
    walk_at "rd"
    refine Rd.len (hS.same sG) ?_
    rw [List.length_map]
    walk_at "rd"
    walk_at "no"
    walk_at "rd"
    refine ⟨Nat.zero_le _, Rd.new fun f G2 nf gf s2 => ?_⟩
    walk_at "rd"
    refine Ru.for_enumR (a := a) (xs := ws.map V.str) (fun Q q => ?_) (fun i σ H' => ∃ x y, σ = [some (.ref b), some (.ref a), some (.ref f), x, y] ∧ H' f = some (.lst ((ws.take i).map V.str)) ∧ Same G H') (hS.same sG) ⟨_, _, rfl, gf, s2⟩ (fun i σ H' _ ⟨_, _, _, _, z⟩ => z) ?_ ?_
    · walk_at "rd"
      exact q
    · rintro i x _ H' t hx ⟨_, _, rfl, hf, sm⟩ hT
      obtain ⟨z, hz, rfl⟩ := Rd.map_strG hx
      have sT := Rd.same_upd (o := .tup [.int (i : Nat), .str z]) hT
      refine Rd.tupT (.of upd_same) rfl ?_
      walk_at "rd"
      refine ⟨z, rfl, L.ok z (List.mem_of_getElem? hz), fun H1 s1 => ?_⟩
      have hf1 := s1 _ _ (sT _ _ hf)
      walk_at "rd"
      refine Rd.inStrsY (.inl (.of hf1)) ?_
      rw [decide_eq_false (Rd.nodup_take L.nd hz)]
      walk_at "rd"
      refine Rd.tyL (.of hf1) ?_
      walk_at "rd"
      refine Rd.app hf1 (by rw [List.length_map, List.length_take, sizeLine_eq]; omega) fun G3 g3 off3 => ?_
      walk_at "rd"
      refine ⟨_, _, rfl, ?_, fun c o e => ?_⟩
      · rw [Rd.take_snoc hz, List.map_append]
        exact g3
      · rw [off3 c (ne_of_none e nf)]
        exact s1 _ _ (sT _ _ (sm _ _ e))
    · rintro _ H' ⟨_, _, rfl, hf, sm⟩
      rw [List.length_map, List.take_length] at hf
      walk_at "rd"
      refine Rd.tupOf (.of hf) (Rd.new fun t G3 nt gt s3 => ?_)
      walk_at "rd"
      have hb3 := s3 _ _ (sm _ _ (sG _ _ hb))
      refine Rd.sfld hb3 T.cl_Book T.na_Book_watches (by decide) rfl fun G4 g4 off4 => ?_
      walk_at "rd"
      refine k _ ⟨dx, t, g4, ?_⟩ fun c o n e => ?_
      · rw [off4 t (ne_of gt hb3 (fun e => nomatch e))]
        exact gt
      · rw [off4 c n]
        exact s3 _ _ (sm _ _ (sG _ _ e))
theorem ok_check_book (T : Txt w K mg) : FnOk P w K mg base CX0 4 T.f_check_book T.fd_check_book ["book"] (sp_check_book K T.C_Book) := by
  refine T.F_check_book.ok sc_check_book (fun vs H Q E h => ?_) (fun cdv A outer s H vs Q E hr h => ?_)
  · obtain ⟨b, ws, rfl, _⟩ := h
    rfl
  · obtain ⟨b, ws, rfl, ⟨dx, t, hb, ht⟩, k⟩ := h
    refine ⟨_, (pss_cons (ps_if (pt_not (pt_val (pe_callB (id := "isinstance") (r := rIsi K) call_isi (by rfl) T.n_isinstance (by decide +kernel) (pa_cons (pv 0) (pa_cons (pe_glob (v := .ref T.C_Book) rfl T.c_Book rfl) pa_nil)))))
  (pss_one ps_never)
  pss_nil)
  (pss_one (ps_ret (pv 0)))), ?_⟩
    walk_at "rd"
    refine isiOwn T.cl_Book T.ty_Book hb ?_
    walk_at "rd"
    exact k
theorem watch_sm {ws : List Str} (L : Watches ws) : ∀ W ∈ ws, 1 ≤ W.length ∧ W.length ≤ 1000 := fun W m => ⟨(L.ok W m).l0, by have := (L.ok W m).l1; omega⟩

end
end W

namespace W
open PySem PySem.Spec PyProof.Rows L2
section
variable {P : Program} {w : World} {K : PySem.W.Frag} {mg : Str → Option Value} {base : Heap}
/-! ### the roads of a word: lists of spots -/
def Links (K : PySem.W.Frag) (H : Hp) (p : Addr) (n : Nat) (A : Nat → Nat → Prop) : Prop := ∃ rs : List Addr, SqL K H p (rs.map V.ref) ∧ rs.length = n + 1 ∧ ∀ i r, rs[i]? = some r → ∃ ms : List Int, SqL K H r (ms.map V.int) ∧ (ms.Pairwise (· ≤ ·) ∧ ms.length ≤ 1000000) ∧ ∀ x, x ∈ ms ↔ ∃ j : Nat, x = j ∧ A i j
theorem Links.same {K : PySem.W.Frag} {H H' : Hp} {p : Addr} {n : Nat} {A : Nat → Nat → Prop} (h : Links K H p n A) (s : Same H H') : Links K H' p n A := by
  obtain ⟨rs, h1, h2, h3⟩ := h
  exact ⟨rs, s.seq h1, h2, fun i r e => let ⟨ms, k1, k2⟩ := h3 i r e; ⟨ms, s.seq k1, k2⟩⟩
def Rows (H : Hp) (rs : List Addr) (F : Nat → List Int) : Prop := rs.Nodup ∧ ∀ (i : Nat) r, rs[i]? = some r → H r = some (.lst ((F i).map V.int))
theorem Rows.put {H G : Hp} {rs : List Addr} {F : Nat → List Int} (h : Rows H rs F) {i : Nat} {r : Addr} {x : Int} (hi : rs[i]? = some r) (g : G r = some (.lst ((F i).map V.int ++ [.int x]))) (off : ∀ b, b ≠ r → G b = H b) : Rows G rs (fun j => if j = i then F i ++ [x] else F j) := by
  refine ⟨h.1, fun j q hj => ?_⟩
  by_cases c : j = i
  · subst c
    rw [hi] at hj
    cases hj
    show G r = some (.lst ((if j = j then F j ++ [x] else F j).map V.int))
    rw [if_pos rfl, List.map_append]
    exact g
  · have n : q ≠ r := fun e => by
      subst e
      exact c ((List.getElem?_inj (List.getElem?_eq_some_iff.mp hj).1 h.1).mp (hj.trans hi.symm))
    show G q = some (.lst ((if j = i then F i ++ [x] else F j).map V.int))
    rw [if_neg c, off q n]
    exact h.2 j q hj
/-- .. each neighbour once, ascending -/
def LinksN (K : PySem.W.Frag) (H0 H : Hp) (p : Addr) (n : Nat) (A : Nat → Nat → Prop) : Prop := ∃ rs : List Addr, SqL K H p (rs.map V.ref) ∧ rs.length = n + 1 ∧ ∀ i r, rs[i]? = some r → ∃ ms : List Int, SqL K H r (ms.map V.int) ∧ ms.Pairwise (· < ·) ∧ (H r = some (.lst (ms.map V.int)) ∧ H0 r = none) ∧ ∀ x, x ∈ ms ↔ ∃ j : Nat, x = j ∧ A i j
theorem LinksN.same {K : PySem.W.Frag} {H0 H H' : Hp} {p : Addr} {n : Nat} {A : Nat → Nat → Prop} (h : LinksN K H0 H p n A) (s : Same H H') : LinksN K H0 H' p n A := by
  obtain ⟨rs, h1, h2, h3⟩ := h
  refine ⟨rs, s.seq h1, h2, fun i r e => ?_⟩
  obtain ⟨ms, m1, m2, m3, m4⟩ := h3 i r e
  exact ⟨ms, s.seq m1, m2, ⟨s _ _ m3.1, m3.2⟩, m4⟩
theorem adj_fresh {ws : List Str} {k : Nat} {W z : Str} {m : Nat} (nd : ws.Nodup) (hW : ws[k]? = some W) (hw : ∀ W ∈ ws, 1 ≤ W.length) (oc : Mw.Occ W z m) : ¬ Mw.AdjB (ws.take k) W z m m (m + W.length) ∧ ¬ Mw.AdjB (ws.take k) W z m (m + W.length) m := by
  have w1 := hw W (List.mem_of_getElem? hW)
  have no : W ∉ ws.take k := fun h => by
    obtain ⟨j, hj, e⟩ := List.mem_take_iff_getElem.mp h
    obtain ⟨hk, e2⟩ := List.getElem?_eq_some_iff.mp hW
    have := (List.pairwise_iff_getElem.mp nd) j k (by omega) hk (by omega)
    exact this (e.trans e2.symm)
  have same : ∀ W', Mw.Occ W' z m → W'.length = W.length → W' = W := fun W' o e => by
    have h1 := o.2
    rw [e] at h1
    exact h1.symm.trans oc.2
  constructor
  · rintro (⟨W', mm, ⟨o, e⟩ | ⟨o, e⟩⟩ | ⟨h, _⟩ | ⟨h, _⟩)
    · exact no (same W' o (by omega) ▸ mm)
    · have := hw W' (List.mem_of_mem_take mm)
      omega
    · omega
    · omega
  · rintro (⟨W', mm, ⟨o, e⟩ | ⟨o, e⟩⟩ | ⟨h, _⟩ | ⟨h, _⟩)
    · have := hw W' (List.mem_of_mem_take mm)
      omega
    · exact no (same W' o (by omega) ▸ mm)
    · omega
    · omega
theorem sorted_lt {ms : List Int} (h : ms.Pairwise (· ≤ ·)) (nd : ms.Nodup) : ms.Pairwise (· < ·) := by
  have := h.and nd
  exact this.imp fun ⟨a, b⟩ => by omega
def sp_links_of (K : PySem.W.Frag) : Sp := fun vs H Q _ => ∃ (a : Addr) (ws : List Str) (z : Str), vs = [.ref a, .str z] ∧ Ru.SqR K H a (ws.map V.str) ∧ (∀ W ∈ ws, 1 ≤ W.length ∧ W.length ≤ 1000) ∧ ws.length ≤ 100 ∧ z.length ≤ 1000 ∧ ∀ p H', Links K H' p z.length (Mw.Adj ws z) → Same H H' → H p = none → (ws.Nodup → LinksN K H H' p z.length (Mw.Adj ws z)) → Q (.ref p) H'
/-- the rows so far: f the list of them, G0 what stood ahead -/
structure SoFar (G0 H : Hp) (f : Addr) (rs : List Addr) (n : Nat) (F : Nat → List Int) : Prop where
  sm : Same G0 H
  hf : H f = some (.lst (rs.map V.ref))
  ro : Rows H rs F
  ln : rs.length = n + 1
  nr : ∀ r ∈ rs, G0 r = none ∧ r ≠ f
theorem SoFar.put {G0 H G : Hp} {f : Addr} {rs : List Addr} {n : Nat} {F : Nat → List Int} (h : SoFar G0 H f rs n F) {i : Nat} {r : Addr} {x : Int} (hi : rs[i]? = some r) (g : G r = some (.lst ((F i).map V.int ++ [.int x]))) (off : ∀ b, b ≠ r → G b = H b) : SoFar G0 G f rs n (fun j => if j = i then F i ++ [x] else F j) := by
  have m := h.nr r (List.mem_of_getElem? hi)
  refine ⟨fun b o e => ?_, ?_, h.ro.put hi g off, h.ln, h.nr⟩
  · rw [off b (ne_of_none e m.1)]
    exact h.sm b o e
  · rw [off f m.2.symm]
    exact h.hf
theorem SoFar.row {G0 H : Hp} {f : Addr} {rs : List Addr} {n : Nat} {F : Nat → List Int} (h : SoFar G0 H f rs n F) {i : Nat} (hi : i ≤ n) : ∃ r, rs[i]? = some r ∧ H r = some (.lst ((F i).map V.int)) ∧ atI (rs.map V.ref) (i : Int) = some (.ref r) := by
  have l : i < rs.length := by have := h.ln; omega
  exact ⟨rs[i], List.getElem?_eq_getElem l, h.ro.2 i _ (List.getElem?_eq_getElem l), atI_nat (Rd.map_ref l)⟩
theorem ok_links_of (T : Txt w K mg) : FnOk P w K mg base CX0 1 T.f_links_of T.fd_links_of ["watches", "word"] (sp_links_of K) := by
  refine T.F_links_of.ok sc_links_of (fun vs H Q E h => ?_) (fun cdv A outer s H vs Q E hr h => ?_)
  · obtain ⟨a, ws, z, rfl, _⟩ := h
    rfl
  · obtain ⟨a, ws, z, rfl, hS, hw, l1, l2, k⟩ := h
    refine ⟨_, (pss_cons (ps_setLc (i := 3) (own := [("spot", 2)]) (g := gName 2) (tt := tYes) rfl sc_links_of.nd rfl rfl (sw_true rfl rfl rfl (by decide +kernel)) (pi_range1 rfl T.n_range (pa_cons (pe_op op_add (pe_callB (id := "len") (r := _) Rd.c_lenS (by rfl) T.n_len (by decide +kernel) (pa_cons (pv 1) pa_nil)) pe_int) pa_nil)) (blkOk_by (own := [("spot", 2)]) (N := ["watches", "word", "spot", "found", "watch", "row"]) (sc := defScope s_links_of) (by decide +kernel)) (fun _ _ _ _ _ => (pg_name (i := 2) sc_links_of.nd rfl (.inl rfl))) (fun _ _ _ _ _ => pts_nil) (fun _ _ _ _ _ => (pe_lst pa_nil)))
  (pss_cons (ps_for PassesOwn.never rfl (Ru.pi_or (pi_list (pv 0)) (pi_tup (pv 0))) (pg_name (i := 4) sc_links_of.nd rfl (.inl rfl))
  (pss_one (ps_for PassesOwn.never rfl (pi_range1 rfl T.n_range (pa_cons (pe_op op_add (pe_op op_sub (pe_callB (id := "len") (r := _) Rd.c_lenS (by rfl) T.n_len (by decide +kernel) (pa_cons (pv 1) pa_nil)) (pe_callB (id := "len") (r := _) Rd.c_lenS (by rfl) T.n_len (by decide +kernel) (pa_cons (pv 4) pa_nil))) pe_int) pa_nil)) (pg_name (i := 2) sc_links_of.nd rfl (.inl rfl))
  (pss_one (ps_if (pt_cmpR op_eq (pe_slice sl_str (pv 1) (po_some (pv 2)) (po_some (pe_op op_add (pv 2) (pe_callB (id := "len") (r := _) Rd.c_lenS (by rfl) T.n_len (by decide +kernel) (pa_cons (pv 4) pa_nil))))) (pv 4) (nomark _))
  (pss_cons (ps_expr (pe_bm PySem.F.plainAttrs_list PySem.F.slot_list_append PySem.F.type_list_append mt_append (pe_ix (r := rIxL K) ix_list (pv 3) (pv 2) (fun _ _ => rfl)) (pa_cons (pe_op op_add (pv 2) (pe_callB (id := "len") (r := _) Rd.c_lenS (by rfl) T.n_len (by decide +kernel) (pa_cons (pv 4) pa_nil))) pa_nil)))
  (pss_one (ps_expr (pe_bm PySem.F.plainAttrs_list PySem.F.slot_list_append PySem.F.type_list_append mt_append (pe_ix (r := rIxL K) ix_list (pv 3) (pe_op op_add (pv 2) (pe_callB (id := "len") (r := _) Rd.c_lenS (by rfl) T.n_len (by decide +kernel) (pa_cons (pv 4) pa_nil))) (fun _ _ => rfl)) (pa_cons (pv 2) pa_nil)))))
  pss_nil)))))
  (pss_one (ps_ret (pe_lc (own := [("row", 5)]) (g := gName 5) (tt := tYes) rfl sc_links_of.nd (pi_list (pv 3)) (blkOk_by (own := [("row", 5)]) (N := ["watches", "word", "spot", "found", "watch", "row"]) (sc := defScope s_links_of) (by decide +kernel)) (fun _ _ _ _ _ => (pg_name (i := 5) sc_links_of.nd rfl (.inl rfl))) (fun _ _ _ _ _ => pts_nil) (fun _ _ _ _ _ => (pe_callB (id := "sorted") (r := rSortedI K) cr_sortedI (by rfl) T.n_sorted (by decide +kernel) (pa_cons (pv 5) pa_nil)))))))), ?_⟩
    have zl : z.length ≤ sizeLine := by rw [sizeLine_eq]; omega
    walk_at "rd"
    refine Rd.lenStr zl ?_
    walk_at "rd"
    refine ⟨by omega, by omega, ?_⟩
    rw [show ((z.length : Int) + 1).toNat = z.length + 1 by omega]
    refine Rd.lcS walk_range (fun _ _ => trivial) (fun D i acc Hc => ∃ rs : List Addr, acc = rs.map V.ref ∧ rs.length = i ∧ rs.Nodup ∧ (∀ r ∈ rs, H r = none ∧ r ≠ D) ∧ ∀ r ∈ rs, Hc r = some (.lst [])) (fun _ _ _ _ _ => ⟨[], rfl, rfl, .nil, fun _ h => by simp at h, fun _ h => by simp at h⟩) ?_ ?_
    · rintro D i x G _ acc nD hi hD sm ⟨rs, rfl, ln, nd, h1, h2⟩ ⟨rfl, rfl⟩
      walk_at "rd"
      refine ⟨rfl, Rd.tyes ?_⟩
      walk_at "rd"
      refine ⟨Nat.zero_le _, Rd.new fun r G1 nr gr s1 => ?_⟩
      refine Rd.lcPush (s1 _ _ hD) nD (sm.trans s1) (by rw [List.length_map, ln, sizeLine_eq]; omega) fun G2 g2 off2 => ?_
      have rD : r ≠ D := (ne_of_none hD nr).symm
      have out : ∀ q ∈ rs, q ≠ r := fun q hq => ne_of_none (h2 q hq) nr
      refine ⟨rs ++ [r], by rw [List.map_append]; rfl, by rw [List.length_append, ln]; rfl, ?_, fun q hq => ?_, fun q hq => ?_⟩
      · rw [List.nodup_append]
        exact ⟨nd, by simp, fun q hq y hy e => out q hq (by simp at hy; rw [e, hy])⟩
      · rcases List.mem_append.mp hq with h | h
        · exact h1 q h
        · simp at h
          subst h
          exact ⟨sm.free nr, rD⟩
      · rcases List.mem_append.mp hq with h | h
        · rw [off2 q (h1 q h).2]
          exact s1 _ _ (h2 q h)
        · simp at h
          subst h
          rw [off2 q rD]
          exact gr
    · rintro f acc G nf hf sm ⟨rs, rfl, ln, nd, h1, h2⟩
      walk_at "rd"
      have sf0 : SoFar H G f rs z.length (fun _ => []) := ⟨sm, hf, ⟨nd, fun i r e => h2 r (List.mem_of_getElem? e)⟩, ln, h1⟩
      refine Ru.for_row (a := a) (xs := ws.map V.str) (fun Q q => ?_) (fun k σ H' => ∃ o1 o2 F, σ = [some (.ref a), some (.str z), o1, some (.ref f), o2, none] ∧ SoFar H H' f rs z.length F ∧ (∀ i, i ≤ z.length → ∀ x, x ∈ F i ↔ ∃ j : Nat, x = j ∧ Mw.Adj (ws.take k) z i j) ∧ ∀ i, (F i).length ≤ 2 * (k * (z.length + 1)) ∧ (ws.Nodup → (F i).Nodup)) hS
        ⟨_, _, _, rfl, sf0, fun i _ x => ⟨fun h => by simp at h, fun ⟨j, _, h⟩ => absurd h Mw.adj_nil⟩, fun i => ⟨Nat.zero_le _, fun _ => .nil⟩⟩ (fun i σ H' _ ⟨_, _, _, _, z, _⟩ => z.sm) ?_ ?_
      · walk_at "rd"
        exact q
      · rintro k x _ H' hx ⟨o1, o2, F, rfl, sf, hF, lF⟩
        obtain ⟨W, hW, rfl⟩ := Rd.map_strG hx
        have wl := hw W (List.mem_of_getElem? hW)
        have wz : W.length ≤ sizeLine := by rw [sizeLine_eq]; omega
        have kl : k < ws.length := (List.getElem?_eq_some_iff.mp hW).1
        walk_at "rd"
        refine Rd.forS ?_
        walk_at "rd"
        refine Rd.lenStr zl ?_
        walk_at "rd"
        refine Rd.lenStr wz ?_
        walk_at "rd"
        refine ⟨by omega, by omega, ?_⟩
        refine for_range (lo := 0) (n := ((z.length : Int) - (W.length : Int) + 1).toNat) (fun m σ H' => ∃ o1 F, σ = [some (.ref a), some (.str z), o1, some (.ref f), some (.str W), none] ∧ SoFar H H' f rs z.length F ∧ (∀ i, i ≤ z.length → ∀ x, x ∈ F i ↔ ∃ j : Nat, x = j ∧ Mw.AdjB (ws.take k) W z m i j) ∧ ∀ i, (F i).length ≤ 2 * (k * (z.length + 1) + m) ∧ (ws.Nodup → (F i).Nodup))
          ⟨_, F, rfl, sf, fun i hi x => (hF i hi x).trans (exists_congr fun j => and_congr_right fun _ => Mw.adjB_zero.symm), lF⟩ ?_ ?_
        · rintro m _ H1 hm ⟨o1, F, rfl, sf, hF, lF⟩
          have mz : m + W.length ≤ z.length := by omega
          have kz : k * (z.length + 1) ≤ 100 * 1001 := Nat.mul_le_mul (by omega) (by omega)
          have small : ∀ i, (F i).length < sizeLine := fun i => by have := (lF i).1; rw [sizeLine_eq]; omega
          walk_at "rd"
          rw [Int.zero_add]
          refine Rd.lenStr wz ?_
          walk_at "rd"
          refine Rd.slS zl ?_
          walk_at "rd"
          refine ite2 (fun q => ?_) (fun q => ?_)
          · have oc : Mw.Occ W z m := ⟨mz, q⟩
            walk_at "rd"
            obtain ⟨r, e1, e2, e3⟩ := sf.row (i := m) (by omega)
            refine Rd.ixL (.of sf.hf) e3 ?_
            refine Rd.tyL (.of e2) ?_
            walk_at "rd"
            refine Rd.lenStr wz ?_
            walk_at "rd"
            refine Rd.app e2 (by rw [List.length_map]; exact small m) fun G1 g1 off1 => ?_
            have sf1 := sf.put e1 g1 off1
            walk_at "rd"
            refine Rd.lenStr wz ?_
            walk_at "rd"
            obtain ⟨r', d1, d2, d3⟩ := sf1.row (i := m + W.length) mz
            rw [show ((m + W.length : Nat) : Int) = (m : Int) + (W.length : Int) by omega] at d3
            have ne : ¬ m + W.length = m := by omega
            rw [if_neg ne] at d2
            refine Rd.ixL (.of sf1.hf) d3 ?_
            refine Rd.tyL (.of d2) ?_
            walk_at "rd"
            refine Rd.app d2 (by rw [List.length_map]; exact small _) fun G2 g2 off2 => ?_
            have sf2 := sf1.put (x := (m : Int)) d1 (by rw [if_neg ne]; exact g2) off2
            walk_at "rd"
            have fr : ws.Nodup → ((m : Int) + (W.length : Int)) ∉ F m ∧ (m : Int) ∉ F (m + W.length) := fun nd => by
              have ⟨f1, f2⟩ := adj_fresh nd hW (fun W m => (hw W m).1) oc
              constructor
              · intro h
                obtain ⟨j, e, a⟩ := (hF m (by omega) _).mp h
                rw [show j = m + W.length by omega] at a
                exact f1 a
              · intro h
                obtain ⟨j, e, a⟩ := (hF (m + W.length) mz _).mp h
                rw [show j = m by omega] at a
                exact f2 a
            have ndp : ∀ {l : List Int} {x : Int}, l.Nodup → x ∉ l → (l ++ [x]).Nodup := fun h n => by
              rw [List.nodup_append]
              exact ⟨h, by simp, fun a ha b hb e => n (by simp at hb; rw [← hb, ← e]; exact ha)⟩
            refine ⟨_, _, rfl, sf2, fun i hi x => ?_, fun i => ?_⟩
            · have base := hF i hi x
              have yes : ∀ j, Mw.AdjB (ws.take k) W z (m + 1) i j ↔ Mw.AdjB (ws.take k) W z m i j ∨ (i = m ∧ j = m + W.length) ∨ (j = m ∧ i = m + W.length) := fun j => Mw.adjB_yes oc
              simp only [yes]
              by_cases c1 : i = m + W.length
              · subst c1
                rw [if_pos rfl, if_neg ne, List.mem_append, base]
                constructor
                · rintro (⟨j, h1, h2⟩ | h)
                  · exact ⟨j, h1, .inl h2⟩
                  · exact ⟨m, by simpa using h, .inr (.inr ⟨rfl, rfl⟩)⟩
                · rintro ⟨j, h1, h2 | ⟨h2, _⟩ | ⟨h2, _⟩⟩
                  · exact .inl ⟨j, h1, h2⟩
                  · omega
                  · exact .inr (by simp; omega)
              · rw [if_neg c1]
                by_cases c2 : i = m
                · subst c2
                  rw [if_pos rfl, List.mem_append, base]
                  constructor
                  · rintro (⟨j, h1, h2⟩ | h)
                    · exact ⟨j, h1, .inl h2⟩
                    · exact ⟨_, by simpa using h, .inr (.inl ⟨rfl, rfl⟩)⟩
                  · rintro ⟨j, h1, h2 | ⟨_, h2⟩ | ⟨_, h2⟩⟩
                    · exact .inl ⟨j, h1, h2⟩
                    · exact .inr (by simp; omega)
                    · omega
                · rw [if_neg c2, base]
                  constructor
                  · rintro ⟨j, h1, h2⟩
                    exact ⟨j, h1, .inl h2⟩
                  · rintro ⟨j, h1, h2 | ⟨h2, _⟩ | ⟨_, h2⟩⟩
                    · exact ⟨j, h1, h2⟩
                    · exact absurd h2 c2
                    · exact absurd h2 c1
            · have b1 := lF i
              have b2 := lF m
              have b3 := lF (m + W.length)
              refine ⟨?_, fun nd => ?_⟩
              rotate_left
              · show (if i = m + W.length then (if m + W.length = m then F m ++ [(m : Int) + (W.length : Int)] else F (m + W.length)) ++ [(m : Int)] else if i = m then F m ++ [(m : Int) + (W.length : Int)] else F i).Nodup
                rw [if_neg ne]
                split
                · exact ndp (b3.2 nd) (fr nd).2
                · split
                  · exact ndp (b2.2 nd) (fr nd).1
                  · exact b1.2 nd
              replace b1 := b1.1
              replace b2 := b2.1
              replace b3 := b3.1
              show (if i = m + W.length then (if m + W.length = m then F m ++ [(m : Int) + (W.length : Int)] else F (m + W.length)) ++ [(m : Int)] else if i = m then F m ++ [(m : Int) + (W.length : Int)] else F i).length ≤ _
              rw [if_neg ne]
              split
              · rw [List.length_append, List.length_singleton]; omega
              · split
                · rw [List.length_append, List.length_singleton]; omega
                · omega
          · have oc : ¬ Mw.Occ W z m := fun h => q h.2
            walk_at "rd"
            exact ⟨_, F, rfl, sf, fun i hi x => (hF i hi x).trans (exists_congr fun j => and_congr_right fun _ => (Mw.adjB_no oc).symm), fun i => ⟨by have := (lF i).1; omega, (lF i).2⟩⟩
        · rintro _ H1 ⟨o1, F, rfl, sf, hF, lF⟩
          walk_at "rd"
          refine ⟨_, _, F, rfl, sf, fun i hi x => (hF i hi x).trans (exists_congr fun j => and_congr_right fun _ => ?_), fun i => ?_⟩
          · rw [Rd.take_snoc hW]
            exact Mw.adjB_all (by omega)
          · refine ⟨?_, (lF i).2⟩
            have := (lF i).1
            have e : (k + 1) * (z.length + 1) = k * (z.length + 1) + (z.length + 1) := Nat.succ_mul _ _
            omega
      · rintro _ G1 ⟨o1, o2, F, rfl, sf, hF, lF⟩
        rw [List.length_map, List.take_length] at hF
        have big : ∀ i, (F i).length ≤ 1000000 := fun i => by
          have h1 := (lF i).1
          rw [List.length_map] at h1
          have h2 : ws.length * (z.length + 1) ≤ 100 * 1001 := Nat.mul_le_mul l1 (by omega)
          omega
        walk_at "rd"
        refine ⟨⟨_, .of sf.hf⟩, Rd.lcS walk_list (fun _ s => .of (s _ _ sf.hf)) (fun D i acc Hc => ∃ qs : List Addr, acc = qs.map V.ref ∧ qs.length = i ∧ (∀ q ∈ qs, q ≠ D ∧ H q = none) ∧ ∀ j q, qs[j]? = some q → ∃ ms : List Int, Hc q = some (.lst (ms.map V.int)) ∧ ms.Pairwise (· ≤ ·) ∧ ms.Perm (F j)) (fun _ _ _ _ _ => ⟨[], rfl, rfl, fun _ h => by simp at h, fun _ _ h => by simp at h⟩) ?_ ?_⟩
        · rintro D i x G2 _ acc nD hi hD sm2 ⟨qs, rfl, ql, qD, hq⟩ ⟨rfl, hx⟩
          obtain ⟨r, hr, rfl⟩ := Rd.map_refG hx
          walk_at "rd"
          refine ⟨rfl, Rd.tyes ?_⟩
          walk_at "rd"
          refine Rd.sortedI (.of (sm2 _ _ (sf.ro.2 i r hr))) fun ms p G3 pm ps gp s3 np => ?_
          have pD : p ≠ D := (ne_of_none hD np).symm
          refine Rd.lcPush (s3 _ _ hD) nD (sm2.trans s3) (by rw [List.length_map, ql, sizeLine_eq]; rw [List.length_map, ln] at hi; omega) fun G4 g4 off4 => ?_
          refine ⟨qs ++ [p], by rw [List.map_append]; rfl, by rw [List.length_append, ql]; rfl, fun q h => ?_, fun j q h => ?_⟩
          · rcases List.mem_append.mp h with h | h
            · exact qD q h
            · simp at h
              rw [h]
              exact ⟨pD, sf.sm.free (sm2.free np)⟩
          · rcases Nat.lt_or_ge j qs.length with l | l
            · rw [List.getElem?_append_left l] at h
              obtain ⟨ms', h1, h2, h3⟩ := hq j q h
              exact ⟨ms', by rw [off4 q (qD q (List.mem_of_getElem? h)).1]; exact s3 _ _ h1, h2, h3⟩
            · rw [List.getElem?_append_right l] at h
              have e : j = i := by
                have := (List.getElem?_eq_some_iff.mp h).1
                simp at this
                omega
              subst e
              rw [ql, Nat.sub_self] at h
              cases h
              exact ⟨ms, by rw [off4 _ pD]; exact gp, ps, pm⟩
        · rintro D acc G2 nD hD sm2 ⟨qs, rfl, ql, qD, hq⟩
          rw [List.length_map, ln] at ql
          refine k D G2 ⟨qs, .of hD, ql, fun i q h => ?_⟩ (sf.sm.trans sm2) (sf.sm.free nD) fun nd => ⟨qs, .of hD, ql, fun i q h => ?_⟩
          · obtain ⟨ms, h1, h2, h3⟩ := hq i q h
            exact ⟨ms, .of h1, ⟨h2, by rw [h3.length_eq]; exact big i⟩, fun x => h3.mem_iff.trans (hF i (by have := (List.getElem?_eq_some_iff.mp h).1; omega) x)⟩
          · obtain ⟨ms, h1, h2, h3⟩ := hq i q h
            exact ⟨ms, .of h1, sorted_lt h2 (h3.nodup_iff.mpr ((lF i).2 nd)), ⟨h1, (qD q (List.mem_of_getElem? h)).2⟩, fun x => h3.mem_iff.trans (hF i (by have := (List.getElem?_eq_some_iff.mp h).1; omega) x)⟩

end
end W

namespace W
open PySem PySem.Spec PyProof.Rows L2
section
variable {P : Program} {w : World} {K : PySem.W.Frag} {mg : Str → Option Value} {base : Heap}
/-! ### words and watches drawn, the second way -/
theorem but_off {t l : Addr} {H H1 G : Hp} (b : Rd.But t H H1) (n : H l = none) (off : ∀ q, q ≠ l → G q = H1 q) : Rd.But t H G := fun q o h e => by rw [off q (ne_of_none e n)]; exact b q o h e
/-- a comprehension that draws -/
def LcStT (t c D : Addr) (H1 : Hp) (R : Nat → List V → Hp → Prop) : Nat → Hp → Prop := fun i H => ∃ acc, H D = some (.lst acc) ∧ Tape H t c ∧ Rd.But t H1 H ∧ R i acc H
def LcPuT (t c D : Addr) (H1 : Hp) (R : Nat → List V → Hp → Prop) (i : Nat) (y : V) (H4 : Hp) : Prop := ∃ acc, H4 D = some (.lst acc) ∧ acc.length < sizeLine ∧ LcStT t c D H1 R (i + 1) (upd H4 D (.lst (acc ++ [y])))
theorem lcPuT {t c D : Addr} {H1 H4 : Hp} {R : Nat → List V → Hp → Prop} {i : Nat} {y : V} {acc : List V} (hD : H4 D = some (.lst acc)) (nD : H1 D = none) (tp1 : Tape H1 t c) (tp : Tape H4 t c) (b : Rd.But t H1 H4) (hz : acc.length < sizeLine) (r : ∀ G : Hp, G D = some (.lst (acc ++ [y])) → (∀ b, b ≠ D → G b = H4 b) → R (i + 1) (acc ++ [y]) G) : LcPuT t c D H1 R i y H4 :=
  have ⟨dt, dc⟩ := tp1.new nD
  ⟨acc, hD, hz, acc ++ [y], upd_same, tp.off dt dc fun q h => upd_ne h, but_off b nD fun q h => upd_ne h, r _ upd_same fun b hb => upd_ne hb⟩
theorem lcT {J : It} {n : Nat} {G : Hp → Prop} {Y : Nat → Hp → V → Hp → Prop} (w : Walk J n G Y) {g : TG} {tt : TT} {te : TE} {vs : List Nat} {σ : L2.St} {H1 : Hp} {Q : VK} {t c : Addr} (tp : Tape H1 t c) (hG : ∀ H, Rd.But t H1 H → G H) (R : Addr → Nat → List V → Hp → Prop)
    (r0 : ∀ (D : Addr) (G : Hp), H1 D = none → G D = some (.lst []) → Same H1 G → R D 0 [] G)
    (hs : ∀ (D : Addr) i x H H' acc, H1 D = none → i < n → H D = some (.lst acc) → Tape H t c → Rd.But t H1 H → R D i acc H → Y i H x H' → g x (wipe σ vs) H' fun σ2 H2 => wipe σ2 vs = wipe σ vs ∧ tt σ2 H2 fun b H3 =>
      if b = true then te σ2 H3 fun y H4 => LcPuT t c D H1 (R D) i y H4 else LcStT t c D H1 (R D) (i + 1) H3)
    (hd : ∀ (D : Addr) acc H, H1 D = none → H D = some (.lst acc) → Tape H t c → Rd.But t H1 H → R D n acc H → Q (.ref D) H) : Rd.Lc J g tt te vs σ H1 Q := fun D nD =>
  lc_it w (LcStT t c D H1 (R D)) ⟨[], upd_same, tp.same (Rd.same_upd nD), Rd.But.of (Rd.same_upd nD), r0 D _ nD upd_same (Rd.same_upd nD)⟩ (fun i H hi ⟨acc, h1, h2, h3, h4⟩ => hG H h3)
    (fun i x H H' hi ⟨acc, h1, h2, h3, h4⟩ y => hs D i x H H' acc nD hi h1 h2 h3 h4 y) (fun H ⟨acc, h1, h2, h3, h4⟩ => hd D acc H nD h1 h2 h3 h4)
/-- single letters -/
def Ones (ys : List Str) : Prop := ∀ y ∈ ys, Lt.Let y ∧ y.length = 1
theorem Ones.nil : Ones [] := fun _ h => by simp at h
theorem Ones.snoc {ys : List Str} {c : Nat} (h : Ones ys) (hc : c ∈ Lt.Abc.cps.toList) : Ones (ys ++ [⟨#[c]⟩]) := fun y hy => by
  rcases List.mem_append.mp hy with q | q
  · exact h y q
  · simp at q
    subst q
    exact ⟨Lt.Let.one hc, rfl⟩
theorem Ones.snoc' {ys : List Str} {z : Str} (h : Ones ys) (hz : Lt.Let z ∧ z.length = 1) : Ones (ys ++ [z]) := fun y hy => by
  rcases List.mem_append.mp hy with q | q
  · exact h y q
  · simp at q
    subst q
    exact hz
theorem abc_get {i : Int} (h0 : 0 ≤ i) (h1 : i < 26) : ∃ c, atI Lt.Abc.cps.toList i = some c ∧ c ∈ Lt.Abc.cps.toList := by
  have l : Lt.Abc.cps.toList.length = 26 := by decide +kernel
  have hi : i.toNat < Lt.Abc.cps.toList.length := by omega
  exact ⟨_, Rd.atI_of h0 (List.getElem?_eq_getElem hi), List.getElem_mem hi⟩
theorem abc_nd2 : Lt.Abc.cps.toList.Nodup := by decide +kernel
theorem abc_at2 {i : Int} (h0 : 0 ≤ i) (h1 : i < 26) : ∃ c, Lt.Abc.cps.toList[i.toNat]? = some c ∧ c ∈ Lt.Abc.cps.toList := by
  have l : Lt.Abc.cps.toList.length = 26 := by decide +kernel
  have hi : i.toNat < Lt.Abc.cps.toList.length := by omega
  exact ⟨_, List.getElem?_eq_getElem hi, List.getElem_mem hi⟩
theorem abc_inj2 {a b : Int} {c : Nat} (a0 : 0 ≤ a) (b0 : 0 ≤ b) (ha : Lt.Abc.cps.toList[a.toNat]? = some c) (hb : Lt.Abc.cps.toList[b.toNat]? = some c) : a = b := by
  have go : ∀ {m n : Nat}, Lt.Abc.cps.toList[m]? = some c → Lt.Abc.cps.toList[n]? = some c → ¬ m < n := fun {m n} h1 h2 lt => Rd.nodup_take abc_nd2 h2 (List.mem_of_getElem? (by rw [List.getElem?_take, if_pos lt]; exact h1))
  have h1 := go ha hb
  have h2 := go hb ha
  omega
theorem let_get {z : Str} (h : Lt.Let z) {i : Int} (h0 : 0 ≤ i) (h1 : i < z.length) : ∃ c, atI z.cps.toList i = some c ∧ c ∈ Lt.Abc.cps.toList := by
  have hi : i.toNat < z.cps.toList.length := by rw [Array.length_toList]; unfold Str.length at h1; omega
  exact ⟨_, Rd.atI_of h0 (List.getElem?_eq_getElem hi), h _ (List.getElem_mem hi)⟩
def sp_l_letters (K : PySem.W.Frag) : Sp := fun vs H Q _ => ∃ (t c : Addr) (m : Int), vs = [.ref t, .int m] ∧ Tape H t c ∧ 0 ≤ m ∧ m ≤ 1000 ∧ ∀ (l : Addr) (ys : List Str) H', Tape H' t c → Rd.But t H H' → H l = none → H' l = some (.lst (ys.map V.str)) → (ys.length : Int) = m → Ones ys → (m ≤ 26 → ys.Nodup) → Q (.ref l) H'
def sp_l_word (K : PySem.W.Frag) : Sp := fun vs H Q _ => ∃ (t c : Addr) (m : Int), vs = [.ref t, .int m] ∧ Tape H t c ∧ 1 ≤ m ∧ m ≤ 1000 ∧ ∀ (z : Str) H', Lt.Wd m z → Tape H' t c → Rd.But t H H' → Q (.str z) H'
def sp_l_watch (K : PySem.W.Frag) : Sp := fun vs H Q _ => ∃ (t c : Addr) (z : Str) (m : Int), vs = [.ref t, .str z, .int m] ∧ Tape H t c ∧ Lt.Wd 1000 z ∧ 1 ≤ m ∧ m ≤ 1000 ∧ ∀ (y : Str) H', Lt.Wd m y → Tape H' t c → Rd.But t H H' → Q (.str y) H'
def sp_l_watches (K : PySem.W.Frag) : Sp := fun vs H Q _ => ∃ (t c : Addr) (z : Str) (many most : Int), vs = [.ref t, .str z, .int many, .int most] ∧ Tape H t c ∧ Lt.Wd 1000 z ∧ 0 ≤ many ∧ many ≤ 12 ∧ 1 ≤ most ∧ most ≤ 12 ∧ ∀ (l : Addr) (ws : List Str) H', Tape H' t c → Rd.But t H H' → H l = none → H' l = some (.lst (ws.map V.str)) → ws.Nodup → (ws.length : Int) ≤ many → (∀ y ∈ ws, Lt.Wd most y) → (1 ≤ many → ws ≠ []) → Q (.ref l) H'
def sp_l_mixed (K : PySem.W.Frag) : Sp := fun vs H Q _ => ∃ (t c a : Addr) (ws : List Str), vs = [.ref t, .ref a] ∧ Tape H t c ∧ a ≠ t ∧ SqL K H a (ws.map V.str) ∧ ws.length ≤ 1000 ∧ ∀ (l : Addr) (us : List Str) H', Tape H' t c → Rd.But t H H' → H l = none → H' l = some (.lst (us.map V.str)) → us.Perm ws → Q (.ref l) H'
theorem ok_l_letters (T : Txt w K mg) : FnOk P w K mg base CX0 2 T.f_l_letters T.fd_l_letters ["_law_tape_here", "_law_many"] (sp_l_letters K) := by
  refine T.F_l_letters.ok sc_l_letters (fun vs H Q E h => ?_) (fun cdv A outer s H vs Q E hr h => ?_)
  · obtain ⟨t, c, m, rfl, _⟩ := h
    rfl
  · obtain ⟨t, c, m, rfl, tp, m0, m1, k⟩ := h
    refine ⟨_, (pss_cons (ps_set (i := 2) sc_l_letters.nd rfl (.inr rfl) (pe_call (ok_l_pick T) (hr.mono (by decide)) rfl T.g_l_pick T.F_l_pick.kp T.b_l_pick .nil pass0 (pa_cons (pv 0) (pa_cons pe_int pa_nil))))
  (pss_cons (ps_set (i := 3) sc_l_letters.nd rfl (.inr rfl) (pe_ix (r := rIxL K) ix_list (pe_lst (pa_cons pe_int (pa_cons pe_int (pa_cons pe_int (pa_cons pe_int (pa_cons pe_int (pa_cons pe_int pa_nil))))))) (pe_call (ok_l_pick T) (hr.mono (by decide)) rfl T.g_l_pick T.F_l_pick.kp T.b_l_pick .nil pass0 (pa_cons (pv 0) (pa_cons pe_int pa_nil))) (fun _ _ => rfl)))
  (pss_one (ps_ret (pe_lc (own := [("_law_k", 4)]) (g := gName 4) (tt := tYes) rfl sc_l_letters.nd (pi_range1 rfl T.n_range (pa_cons (pv 1) pa_nil)) (blkOk_by (own := [("_law_k", 4)]) (N := ["_law_tape_here", "_law_many", "_law_start", "_law_step", "_law_k"]) (sc := defScope s_l_letters) (by decide +kernel)) (fun _ _ _ _ _ => (pg_name (i := 4) sc_l_letters.nd rfl (.inl rfl))) (fun _ _ _ _ _ => pts_nil) (fun _ _ _ _ _ => (pe_ix ix_str pe_str (pe_op op_mod (pe_callTy (T := "int") (r := _) Rd.c_int (by rfl) T.n_int (by decide +kernel) (pa_cons (pe_op op_add (pv 2) (pe_op op_mul (pv 3) (pv 4))) pa_nil)) pe_int) (fun _ _ => rfl)))))))), ?_⟩
    walk_at "rd"
    refine pickR tp (by decide) (by decide) fun st H1 st0 st1 tp1 b1 => ?_
    walk_at "rd"
    refine ⟨Nat.le_of_ble_eq_true rfl, Rd.new fun p G2 np gp s2 => ?_⟩
    walk_at "rd"
    refine pickR (tp1.same s2) (by decide) (by decide) fun sp H3 sp0 sp1 tp3 b3 => ?_
    have pt : p ≠ t := (tp1.new np).1
    obtain ⟨step, hm, q0⟩ : ∃ m, [V.int 1, .int 3, .int 5, .int 7, .int 9, .int 11][sp.toNat]? = some (.int m) ∧ (m = 1 ∨ m = 3 ∨ m = 5 ∨ m = 7 ∨ m = 9 ∨ m = 11) := by
      have : sp.toNat = 0 ∨ sp.toNat = 1 ∨ sp.toNat = 2 ∨ sp.toNat = 3 ∨ sp.toNat = 4 ∨ sp.toNat = 5 := by omega
      rcases this with e | e | e | e | e | e <;> rw [e] <;> exact ⟨_, rfl, by decide⟩
    refine Rd.ixL (.of (b3 p _ pt gp)) (Rd.atI_of sp0 hm) ?_
    walk_at "rd"
    refine ⟨by omega, by omega, ?_⟩
    refine Rd.lcS walk_range (fun _ _ => trivial) (fun D i acc _ => ∃ ys : List Str, acc = ys.map V.str ∧ ys.length = i ∧ Ones ys ∧ ∀ (j : Nat) (y : Str), ys[j]? = some y → ∃ c, y = (⟨#[c]⟩ : Str) ∧ Lt.Abc.cps.toList[((st + step * (0 + (j : Int))) % 26).toNat]? = some c) (fun _ _ _ _ _ => ⟨[], rfl, rfl, Ones.nil, fun j y h => by simp at h⟩) ?_ ?_
    · rintro D i x G _ acc nD hi hD sm ⟨ys, rfl, yl, hy, ya⟩ ⟨rfl, rfl⟩
      walk_at "rd"
      refine ⟨rfl, ?_⟩
      walk_at "rd"
      refine Rd.iC (.inl ⟨by omega, by omega⟩) ?_
      walk_at "rd"
      refine Rd.iC (by decide) ?_
      have e0 : 0 ≤ (st + step * (0 + (i : Int))) % 26 := Int.emod_nonneg _ (by decide)
      have e1 : (st + step * (0 + (i : Int))) % 26 < 26 := Int.emod_lt_of_pos _ (by decide)
      obtain ⟨ch, e, hc⟩ := abc_at2 e0 e1
      refine Rd.ixS (by decide +kernel) (Rd.atI_of e0 e) ?_
      refine Rd.lcPush hD nD sm (by rw [List.length_map, yl, sizeLine_eq]; omega) fun G2 g2 off2 => ?_
      refine ⟨ys ++ [⟨#[ch]⟩], by rw [List.map_append]; rfl, by rw [List.length_append, yl]; rfl, hy.snoc hc, fun j y h => ?_⟩
      rcases Nat.lt_or_ge j ys.length with c | c
      · rw [List.getElem?_append_left c] at h
        exact ya j y h
      · rw [List.getElem?_append_right c] at h
        have : j = i := by
          have := (List.getElem?_eq_some_iff.mp h).1
          rw [List.length_singleton] at this
          omega
        subst this
        rw [yl, Nat.sub_self] at h
        exact ⟨ch, (Option.some.inj h).symm, e⟩
    · rintro D acc G nD hD sm ⟨ys, rfl, yl, hy, ya⟩
      have nD0 := b3.free (tp3.new nD).1 nD
      have nD1 := s2.free nD0
      refine k D ys G (tp3.same sm) (((b1.same s2).trans b3).same sm) (b1.free (tp1.new nD1).1 nD1) hD (by omega) hy fun few => ?_
      rw [List.nodup_iff_pairwise_ne, List.pairwise_iff_getElem]
      intro i j hi hj lt e
      obtain ⟨c, ec, ac⟩ := ya i _ (List.getElem?_eq_getElem hi)
      obtain ⟨d, ed, ad⟩ := ya j _ (List.getElem?_eq_getElem hj)
      have cd : c = d := by
        have := (ec.symm.trans e).trans ed
        have := congrArg (fun z : Str => z.cps.toList) this
        exact (List.cons.inj this).1
      subst cd
      have f0 := Int.emod_nonneg (st + step * (0 + (i : Int))) (show (26 : Int) ≠ 0 by decide)
      have g0 := Int.emod_nonneg (st + step * (0 + (j : Int))) (show (26 : Int) ≠ 0 by decide)
      have same := abc_inj2 f0 g0 ac ad
      rcases q0 with rfl | rfl | rfl | rfl | rfl | rfl <;> omega
theorem ok_l_word (T : Txt w K mg) : FnOk P w K mg base CX0 3 T.f_l_word T.fd_l_word ["_law_tape_here", "_law_most"] (sp_l_word K) := by
  refine T.F_l_word.ok sc_l_word (fun vs H Q E h => ?_) (fun cdv A outer s H vs Q E hr h => ?_)
  · obtain ⟨t, c, m, rfl, _⟩ := h
    rfl
  · obtain ⟨t, c, m, rfl, tp, m0, m1, k⟩ := h
    refine ⟨_, (pss_cons (ps_set (i := 2) sc_l_word.nd rfl (.inl rfl) (pe_op op_add pe_int (pe_call (ok_l_pick T) (hr.mono (by decide)) rfl T.g_l_pick T.F_l_pick.kp T.b_l_pick .nil pass0 (pa_cons (pv 0) (pa_cons (pv 1) pa_nil)))))
  (pss_cons (ps_set (i := 3) sc_l_word.nd rfl (.inl rfl) (pe_call (ok_l_pick T) (hr.mono (by decide)) rfl T.g_l_pick T.F_l_pick.kp T.b_l_pick .nil pass0 (pa_cons (pv 0) (pa_cons pe_int pa_nil))))
  (pss_cons (ps_set (i := 4) sc_l_word.nd rfl (.inr rfl) (pe_call (ok_l_letters T) (hr.mono (by decide)) rfl T.g_l_letters T.F_l_letters.kp T.b_l_letters .nil pass0 (pa_cons (pv 0) (pa_cons (pe_op op_add pe_int (pe_callB (id := "min") (r := _) (Rd.c_min2 rfl) (by rfl) T.n_min (by decide +kernel) (pa_cons (pv 3) (pa_cons pe_int pa_nil)))) pa_nil))))
  (pss_cons (ps_if (pt_cmpR op_eq (pv 3) pe_int (nomark _))
  (pss_cons (ps_set (i := 5) sc_l_word.nd rfl (.inr rfl) (pe_lc (own := [("_law_k", 6)]) (g := gName 6) (tt := tYes) rfl sc_l_word.nd (pi_range1 rfl T.n_range (pa_cons (pe_op op_add pe_int (pe_call (ok_l_pick T) (hr.mono (by decide)) rfl T.g_l_pick T.F_l_pick.kp T.b_l_pick .nil pass0 (pa_cons (pv 0) (pa_cons pe_int pa_nil)))) pa_nil)) (blkOk_by (own := [("_law_k", 6)]) (N := ["_law_tape_here", "_law_most", "_law_size", "_law_kind", "_law_letters_here", "_law_part", "_law_k"]) (sc := defScope s_l_word) (by decide +kernel)) (fun _ _ _ _ _ => (pg_name (i := 6) sc_l_word.nd rfl (.inl rfl))) (fun _ _ _ _ _ => pts_nil) (fun _ _ _ _ _ => (pe_ix (r := rIxL K) ix_list (pv 4) (pe_call (ok_l_pick T) (hr.mono (by decide)) rfl T.g_l_pick T.F_l_pick.kp T.b_l_pick .nil pass0 (pa_cons (pv 0) (pa_cons pe_int pa_nil))) (fun _ _ => rfl)))))
  (pss_one (ps_ret (pe_join pe_str (pe_lc (own := [("_law_k", 6)]) (g := gName 6) (tt := tYes) rfl sc_l_word.nd (pi_range1 rfl T.n_range (pa_cons (pv 2) pa_nil)) (blkOk_by (own := [("_law_k", 6)]) (N := ["_law_tape_here", "_law_most", "_law_size", "_law_kind", "_law_letters_here", "_law_part", "_law_k"]) (sc := defScope s_l_word) (by decide +kernel)) (fun _ _ _ _ _ => (pg_name (i := 6) sc_l_word.nd rfl (.inl rfl))) (fun _ _ _ _ _ => pts_nil) (fun _ _ _ _ _ => (pe_ix (r := rIxL K) ix_list (pv 5) (pe_op op_mod (pe_callTy (T := "int") (r := _) Rd.c_int (by rfl) T.n_int (by decide +kernel) (pa_cons (pv 6) pa_nil)) (pe_callB (id := "len") (r := Rd.nLen K) Rd.c_len (by rfl) T.n_len (by decide +kernel) (pa_cons (pv 5) pa_nil))) (fun _ _ => rfl))))))))
  pss_nil)
  (pss_one (ps_ret (pe_join pe_str (pe_lc (own := [("_law_k", 6)]) (g := gName 6) (tt := tYes) rfl sc_l_word.nd (pi_range1 rfl T.n_range (pa_cons (pv 2) pa_nil)) (blkOk_by (own := [("_law_k", 6)]) (N := ["_law_tape_here", "_law_most", "_law_size", "_law_kind", "_law_letters_here", "_law_part", "_law_k"]) (sc := defScope s_l_word) (by decide +kernel)) (fun _ _ _ _ _ => (pg_name (i := 6) sc_l_word.nd rfl (.inl rfl))) (fun _ _ _ _ _ => pts_nil) (fun _ _ _ _ _ => (pe_ix (r := rIxL K) ix_list (pv 4) (pe_call (ok_l_pick T) (hr.mono (by decide)) rfl T.g_l_pick T.F_l_pick.kp T.b_l_pick .nil pass0 (pa_cons (pv 0) (pa_cons (pe_callB (id := "len") (r := Rd.nLen K) Rd.c_len (by rfl) T.n_len (by decide +kernel) (pa_cons (pv 4) pa_nil)) pa_nil))) (fun _ _ => rfl))))))))))), ?_⟩
    walk_at "rd"
    refine pickR tp (by omega) (by omega) fun sz H1 sz0 sz1 tp1 b1 => ?_
    walk_at "rd"
    refine pickR tp1 (by decide) (by decide) fun kd H2 k0 k1 tp2 b2 => ?_
    walk_at "rd"
    refine ⟨t, c, 1 + min kd 2, rfl, tp2, by omega, by omega, fun l ys H3 tp3 b3 nl gl yl hy _ => ?_⟩
    have ⟨lt, lc⟩ := tp2.new nl
    have b03 := (b1.trans b2).trans b3
    walk_at "rd"
    refine ite2 (fun q => ?_) (fun q => ?_)
    · walk_at "rd"
      refine pickR tp3 (by decide) (by decide) fun r H4 r0 r1 tp4 b4 => ?_
      have gl4 := b4 l _ lt gl
      walk_at "rd"
      refine ⟨by omega, by omega, ?_⟩
      refine lcT walk_range tp4 (fun _ _ => trivial) (fun D i acc _ => ∃ us : List Str, acc = us.map V.str ∧ us.length = i ∧ Ones us) (fun _ _ _ _ _ => ⟨[], rfl, rfl, Ones.nil⟩) ?_ ?_
      · rintro D i x G _ acc nD hi hD tpG bG ⟨us, rfl, ul, hu⟩ ⟨rfl, rfl⟩
        walk_at "rd"
        refine ⟨rfl, ?_⟩
        walk_at "rd"
        refine pickR tpG (by decide) (by decide) fun r5 H5 r50 r51 tp5 b5 => ?_
        have gl5 := b5 l _ lt (bG l _ lt gl4)
        have dt := (tp4.new nD).1
        have i5 : r5.toNat < ys.length := by omega
        refine Rd.ixL (.of gl5) (Rd.atI_of r50 (Rd.map_str i5)) ?_
        refine lcPuT (b5 D _ dt hD) nD tp4 tp5 (bG.trans b5) (by rw [List.length_map, ul, sizeLine_eq]; omega) fun G2 g2 off2 => ?_
        exact ⟨us ++ [ys[r5.toNat]], by rw [List.map_append]; rfl, by rw [List.length_append, ul]; rfl, hu.snoc' (hy _ (List.getElem_mem i5))⟩
      · rintro D acc G nD hD tpG bG ⟨us, rfl, ul, hu⟩
        walk_at "rd"
        refine ⟨by omega, by omega, ?_⟩
        refine Rd.lcS walk_range (fun _ _ => trivial) (fun D2 i acc _ => ∃ vs : List Str, acc = vs.map V.str ∧ vs.length = i ∧ Ones vs) (fun _ _ _ _ _ => ⟨[], rfl, rfl, Ones.nil⟩) ?_ ?_
        · rintro D2 i x G1 _ acc nD2 hi hD2 sm ⟨vs, rfl, vl, hv⟩ ⟨rfl, rfl⟩
          walk_at "rd"
          refine ⟨rfl, ?_⟩
          walk_at "rd"
          have hD1 := sm _ _ hD
          refine Rd.len (.inl (.of hD1)) ?_
          rw [List.length_map]
          walk_at "rd"
          refine Rd.iC (by omega) ?_
          have e0 : 0 ≤ (0 + (i : Int)) % (us.length : Int) := Int.emod_nonneg _ (by omega)
          have e1 : (0 + (i : Int)) % (us.length : Int) < us.length := Int.emod_lt_of_pos _ (by omega)
          generalize (0 + (i : Int)) % (us.length : Int) = j at e0 e1
          have j1 : j.toNat < us.length := by omega
          refine Rd.ixL (.of hD1) (Rd.atI_of e0 (Rd.map_str j1)) ?_
          refine Rd.lcPush hD2 nD2 sm (by rw [List.length_map, vl, sizeLine_eq]; omega) fun G2 g2 off2 => ?_
          exact ⟨vs ++ [us[j.toNat]], by rw [List.map_append]; rfl, by rw [List.length_append, vl]; rfl, hv.snoc' (hu _ (List.getElem_mem j1))⟩
        · rintro D2 acc G1 nD2 hD2 sm ⟨vs, rfl, vl, hv⟩
          have j := Lt.join_one (ys := vs) rfl hv
          refine Rd.join (.inl (.of hD2)) (by rw [j.2.2, show (Str.ofString "").length = 0 by decide +kernel]; omega) ?_
          exact k _ _ ⟨j.1, by rw [j.2.1]; omega, by rw [j.2.1]; omega⟩ (tpG.same sm) (((b03.trans b4).trans bG).same sm)
    · walk_at "rd"
      refine ⟨by omega, by omega, ?_⟩
      refine lcT walk_range tp3 (fun _ _ => trivial) (fun D i acc _ => ∃ us : List Str, acc = us.map V.str ∧ us.length = i ∧ Ones us) (fun _ _ _ _ _ => ⟨[], rfl, rfl, Ones.nil⟩) ?_ ?_
      · rintro D i x G _ acc nD hi hD tpG bG ⟨us, rfl, ul, hu⟩ ⟨rfl, rfl⟩
        walk_at "rd"
        refine ⟨rfl, ?_⟩
        walk_at "rd"
        have glG := bG l _ lt gl
        refine Rd.len (.inl (.of glG)) ?_
        rw [List.length_map]
        walk_at "rd"
        refine pickR tpG (by omega) (by omega) fun r5 H5 r50 r51 tp5 b5 => ?_
        have gl5 := b5 l _ lt glG
        have dt := (tp3.new nD).1
        have i5 : r5.toNat < ys.length := by omega
        refine Rd.ixL (.of gl5) (Rd.atI_of r50 (Rd.map_str i5)) ?_
        refine lcPuT (b5 D _ dt hD) nD tp3 tp5 (bG.trans b5) (by rw [List.length_map, ul, sizeLine_eq]; omega) fun G2 g2 off2 => ?_
        exact ⟨us ++ [ys[r5.toNat]], by rw [List.map_append]; rfl, by rw [List.length_append, ul]; rfl, hu.snoc' (hy _ (List.getElem_mem i5))⟩
      · rintro D acc G nD hD tpG bG ⟨us, rfl, ul, hu⟩
        have j := Lt.join_one (ys := us) rfl hu
        refine Rd.join (.inl (.of hD)) (by rw [j.2.2, show (Str.ofString "").length = 0 by decide +kernel]; omega) ?_
        exact k _ _ ⟨j.1, by rw [j.2.1]; omega, by rw [j.2.1]; omega⟩ tpG (b03.trans bG)
theorem ok_l_watch (T : Txt w K mg) : FnOk P w K mg base CX0 2 T.f_l_watch T.fd_l_watch ["_law_tape_here", "_law_word_here", "_law_most"] (sp_l_watch K) := by
  refine T.F_l_watch.ok sc_l_watch (fun vs H Q E h => ?_) (fun cdv A outer s H vs Q E hr h => ?_)
  · obtain ⟨t, c, z, m, rfl, _⟩ := h
    rfl
  · obtain ⟨t, c, z, m, rfl, tp, hz, m0, m1, k⟩ := h
    refine ⟨_, (pss_cons (ps_set (i := 3) sc_l_watch.nd rfl (.inl rfl) (pe_op op_add pe_int (pe_call (ok_l_pick T) (hr.mono (by decide)) rfl T.g_l_pick T.F_l_pick.kp T.b_l_pick .nil pass0 (pa_cons (pv 0) (pa_cons (pe_callB (id := "min") (r := _) (Rd.c_min2 rfl) (by rfl) T.n_min (by decide +kernel) (pa_cons (pv 2) (pa_cons (pe_callB (id := "len") (r := _) Rd.c_lenS (by rfl) T.n_len (by decide +kernel) (pa_cons (pv 1) pa_nil)) pa_nil))) pa_nil)))))
  (pss_cons (ps_set (i := 4) sc_l_watch.nd rfl (.inl rfl) (pe_call (ok_l_pick T) (hr.mono (by decide)) rfl T.g_l_pick T.F_l_pick.kp T.b_l_pick .nil pass0 (pa_cons (pv 0) (pa_cons (pe_op op_add (pe_op op_sub (pe_callB (id := "len") (r := _) Rd.c_lenS (by rfl) T.n_len (by decide +kernel) (pa_cons (pv 1) pa_nil)) (pv 3)) pe_int) pa_nil))))
  (pss_cons (ps_if (pt_cmpR op_gt (pe_call (ok_l_pick T) (hr.mono (by decide)) rfl T.g_l_pick T.F_l_pick.kp T.b_l_pick .nil pass0 (pa_cons (pv 0) (pa_cons pe_int pa_nil))) pe_int (nomark _))
  (pss_one (ps_ret (pe_slice sl_str (pv 1) (po_some (pv 4)) (po_some (pe_op op_add (pv 4) (pv 3))))))
  pss_nil)
  (pss_one (ps_ret (pe_join pe_str (pe_lc (own := [("_law_k", 5)]) (g := gName 5) (tt := tYes) rfl sc_l_watch.nd (pi_range1 rfl T.n_range (pa_cons (pv 3) pa_nil)) (blkOk_by (own := [("_law_k", 5)]) (N := ["_law_tape_here", "_law_word_here", "_law_most", "_law_size", "_law_at", "_law_k"]) (sc := defScope s_l_watch) (by decide +kernel)) (fun _ _ _ _ _ => (pg_name (i := 5) sc_l_watch.nd rfl (.inl rfl))) (fun _ _ _ _ _ => pts_nil) (fun _ _ _ _ _ => (pe_ix ix_str (pv 1) (pe_call (ok_l_pick T) (hr.mono (by decide)) rfl T.g_l_pick T.F_l_pick.kp T.b_l_pick .nil pass0 (pa_cons (pv 0) (pa_cons (pe_callB (id := "len") (r := _) Rd.c_lenS (by rfl) T.n_len (by decide +kernel) (pa_cons (pv 1) pa_nil)) pa_nil))) (fun _ _ => rfl)))))))))), ?_⟩
    have zl : z.length ≤ sizeLine := hz.line (by decide)
    have z0 := hz.l0
    have z1 := hz.l1
    walk_at "rd"
    refine Rd.lenStr zl ?_
    walk_at "rd"
    refine pickR tp (by omega) (by omega) fun sz H1 sz0 sz1 tp1 b1 => ?_
    walk_at "rd"
    refine Rd.lenStr zl ?_
    walk_at "rd"
    refine pickR tp1 (by omega) (by omega) fun st H2 st0 st1 tp2 b2 => ?_
    walk_at "rd"
    refine pickR tp2 (by decide) (by decide) fun r H3 r0 r1 tp3 b3 => ?_
    have b03 := (b1.trans b2).trans b3
    walk_at "rd"
    refine ite2 (fun q => ?_) (fun q => ?_)
    · walk_at "rd"
      refine Rd.slS zl ?_
      have e := Lt.cut_lenI (z := z) (a := st) (b := st + (1 + sz)) st0 (by omega) (by omega)
      exact k _ _ ⟨hz.ok.cut _ _, by omega, by omega⟩ tp3 b03
    · walk_at "rd"
      refine ⟨by omega, by omega, ?_⟩
      refine lcT walk_range tp3 (fun _ _ => trivial) (fun D i acc _ => ∃ us : List Str, acc = us.map V.str ∧ us.length = i ∧ Ones us) (fun _ _ _ _ _ => ⟨[], rfl, rfl, Ones.nil⟩) ?_ ?_
      · rintro D i x G _ acc nD hi hD tpG bG ⟨us, rfl, ul, hu⟩ ⟨rfl, rfl⟩
        walk_at "rd"
        refine ⟨rfl, ?_⟩
        walk_at "rd"
        refine Rd.lenStr zl ?_
        walk_at "rd"
        refine pickR tpG (by omega) (by omega) fun r5 H5 r50 r51 tp5 b5 => ?_
        have dt := (tp3.new nD).1
        obtain ⟨ch, e, hc⟩ := let_get hz.ok r50 r51
        refine Rd.ixS zl e ?_
        refine lcPuT (b5 D _ dt hD) nD tp3 tp5 (bG.trans b5) (by rw [List.length_map, ul, sizeLine_eq]; omega) fun G2 g2 off2 => ?_
        exact ⟨us ++ [⟨#[ch]⟩], by rw [List.map_append]; rfl, by rw [List.length_append, ul]; rfl, hu.snoc hc⟩
      · rintro D acc G nD hD tpG bG ⟨us, rfl, ul, hu⟩
        have j := Lt.join_one (ys := us) rfl hu
        refine Rd.join (.inl (.of hD)) (by rw [j.2.2, show (Str.ofString "").length = 0 by decide +kernel]; omega) ?_
        exact k _ _ ⟨j.1, by rw [j.2.1]; omega, by rw [j.2.1]; omega⟩ tpG (b03.trans bG)

end
end W

namespace W
open PySem PySem.Spec PyProof.Rows L2
section
variable {P : Program} {w : World} {K : PySem.W.Frag} {mg : Str → Option Value} {base : Heap}
theorem snoc_all {α : Type} {P : α → Prop} {ws : List α} {y : α} (h : ∀ x ∈ ws, P x) (q : P y) : ∀ x ∈ ws ++ [y], P x := fun x hx => by
  rcases List.mem_append.mp hx with h1 | h1
  · exact h x h1
  · simp at h1
    rw [h1]
    exact q
theorem perm_erase {α : Type} : ∀ {l : List α} {i : Nat} (h : i < l.length), (l[i] :: l.eraseIdx i).Perm l
  | a :: r, 0, _ => List.Perm.refl _
  | a :: r, i + 1, h => by
    have h' : i < r.length := by simpa using h
    have ih := perm_erase (l := r) (i := i) h'
    show (r[i] :: a :: r.eraseIdx i).Perm (a :: r)
    exact (List.Perm.swap a r[i] _).trans (ih.cons a)
theorem ok_l_watches (T : Txt w K mg) : FnOk P w K mg base CX0 3 T.f_l_watches T.fd_l_watches ["_law_tape_here", "_law_word_here", "_law_many", "_law_most"] (sp_l_watches K) := by
  refine T.F_l_watches.ok sc_l_watches (fun vs H Q E h => ?_) (fun cdv A outer s H vs Q E hr h => ?_)
  · obtain ⟨t, c, z, many, most, rfl, _⟩ := h
    rfl
  · obtain ⟨t, c, z, many, most, rfl, tp, hz, m0, m1, n0, n1, k⟩ := h
    refine ⟨_, (pss_cons (ps_set (i := 4) sc_l_watches.nd rfl (.inl rfl) (pe_lst pa_nil))
  (C8.pss_cut (ps_if (PW.pt (pw_and (pt_cmpR op_gt (pv 2) pe_int (nomark _)) (pw_and (pt_cmpR op_gt (pe_callB (id := "len") (r := _) Rd.c_lenS (by rfl) T.n_len (by decide +kernel) (pa_cons (pv 1) pa_nil)) pe_int (nomark _)) (pw_and1 (pt_cmpR op_eq (pe_call (ok_l_pick T) (hr.mono (by decide)) rfl T.g_l_pick T.F_l_pick.kp T.b_l_pick .nil pass0 (pa_cons (pv 0) (pa_cons pe_int pa_nil))) pe_int (nomark _))))))
  (pss_cons (ps_set (i := 5) sc_l_watches.nd rfl (.inl rfl) (pe_op op_add pe_int (pe_call (ok_l_pick T) (hr.mono (by decide)) rfl T.g_l_pick T.F_l_pick.kp T.b_l_pick .nil pass0 (pa_cons (pv 0) (pa_cons (pe_op op_sub (pe_callB (id := "len") (r := _) Rd.c_lenS (by rfl) T.n_len (by decide +kernel) (pa_cons (pv 1) pa_nil)) pe_int) pa_nil)))))
  (pss_cons (ps_set (i := 6) sc_l_watches.nd rfl (.inl rfl) (pe_op op_add (pe_op op_add (pv 5) pe_int) (pe_call (ok_l_pick T) (hr.mono (by decide)) rfl T.g_l_pick T.F_l_pick.kp T.b_l_pick .nil pass0 (pa_cons (pv 0) (pa_cons (pe_op op_sub (pe_op op_sub (pe_callB (id := "len") (r := _) Rd.c_lenS (by rfl) T.n_len (by decide +kernel) (pa_cons (pv 1) pa_nil)) (pv 5)) pe_int) pa_nil)))))
  (pss_cons (ps_for PassesOwn.never rfl (pi_list (pe_lst (pa_cons (pe_slice sl_str (pv 1) po_none (po_some (pv 6))) (pa_cons (pe_slice sl_str (pv 1) (po_some (pv 5)) (po_some (pv 6))) (pa_cons (pe_slice sl_str (pv 1) (po_some (pv 5)) po_none) pa_nil))))) (pg_name (i := 7) sc_l_watches.nd rfl (.inl rfl))
  (pss_one (ps_if (PW.pt (pw_and (pt_cmpR op_le (pe_callB (id := "len") (r := _) Rd.c_lenS (by rfl) T.n_len (by decide +kernel) (pa_cons (pv 7) pa_nil)) (pv 3) (nomark _)) (pw_and1 (pt_cmpR (r := rIn K true) op_notIn_seq (pv 7) (pv 4) (by rfl)))))
  (pss_one (ps_expr (pe_bm PySem.F.plainAttrs_list PySem.F.slot_list_append PySem.F.type_list_append mt_append (pv 4) (pa_cons (pv 7) pa_nil))))
  pss_nil)))
  (pss_one (ps_if (PW.pt (pw_and (pt_cmpR op_eq (pe_callB (id := "len") (r := Rd.nLen K) Rd.c_len (by rfl) T.n_len (by decide +kernel) (pa_cons (pv 4) pa_nil)) pe_int (nomark _)) (pw_and1 (pt_cmpR op_gt (pe_call (ok_l_pick T) (hr.mono (by decide)) rfl T.g_l_pick T.F_l_pick.kp T.b_l_pick .nil pass0 (pa_cons (pv 0) (pa_cons pe_int pa_nil))) pe_int (nomark _)))))
  (pss_one (ps_ret (pv 4)))
  pss_nil)))))
  pss_nil)
  (pss_cons (ps_for PassesOwn.never rfl (pi_range1 rfl T.n_range (pa_cons (pe_op op_sub (pv 2) (pe_callB (id := "len") (r := Rd.nLen K) Rd.c_len (by rfl) T.n_len (by decide +kernel) (pa_cons (pv 4) pa_nil))) pa_nil)) (pg_name (i := 8) sc_l_watches.nd rfl (.inl rfl))
  (pss_cons (ps_set (i := 9) sc_l_watches.nd rfl (.inl rfl) (pe_call (ok_l_watch T) (hr.mono (by decide)) rfl T.g_l_watch T.F_l_watch.kp T.b_l_watch .nil pass0 (pa_cons (pv 0) (pa_cons (pv 1) (pa_cons (pv 3) pa_nil)))))
  (pss_one (ps_if (pt_cmpR (r := rIn K true) op_notIn_seq (pv 9) (pv 4) (by rfl))
  (pss_one (ps_expr (pe_bm PySem.F.plainAttrs_list PySem.F.slot_list_append PySem.F.type_list_append mt_append (pv 4) (pa_cons (pv 9) pa_nil))))
  pss_nil))))
  (pss_one (ps_ret (pv 4)))))), ?_⟩
    have zl : z.length ≤ sizeLine := hz.line (by decide)
    have z0 := hz.l0
    have z1 := hz.l1
    walk_at "rd"
    refine ⟨Nat.zero_le _, Rd.new fun l G nl gl sG => ?_⟩
    have ⟨lt, lc⟩ := tp.new nl
    walk_at "rd"
    refine Rd.cut (fun σ H' => ∃ (ws : List Str) (o5 o6 o7 : Option V), σ = [some (.ref t), some (.str z), some (.int many), some (.int most), some (.ref l), o5, o6, o7, none, none] ∧ Tape H' t c ∧ Rd.But t H H' ∧ H' l = some (.lst (ws.map V.str)) ∧ ws.Nodup ∧ (ws.length : Int) ≤ many ∧ ∀ y ∈ ws, Lt.Wd most y) ?_ ?_
    · walk_at "rd"
      refine ite2 (fun q1 => ?_) (fun q1 => ?_)
      · walk_at "rd"
        refine Rd.lenStr zl ?_
        walk_at "rd"
        refine ite2 (fun q2 => ?_) (fun q2 => ?_)
        · walk_at "rd"
          refine pickR (tp.same sG) (by decide) (by decide) fun r H1 r0 r1 tp1 b1 => ?_
          have gl1 := b1 l _ lt gl
          have b01 : Rd.But t H H1 := (Rd.But.of sG).trans b1
          walk_at "rd"
          refine ite2 (fun q3 => ?_) (fun q3 => ?_)
          · walk_at "rd"
            refine Rd.lenStr zl ?_
            walk_at "rd"
            refine pickR tp1 (by omega) (by omega) fun lo H2 lo0 lo1 tp2 b2 => ?_
            walk_at "rd"
            refine Rd.lenStr zl ?_
            walk_at "rd"
            refine pickR tp2 (by omega) (by omega) fun hi H3 hi0 hi1 tp3 b3 => ?_
            have gl3 := b3 l _ lt (b2 l _ lt gl1)
            have b03 := (b01.trans b2).trans b3
            walk_at "rd"
            refine Rd.forS ?_
            walk_at "rd"
            refine Rd.slS zl ?_
            walk_at "rd"
            refine Rd.slS zl ?_
            walk_at "rd"
            refine Rd.slS zl ?_
            walk_at "rd"
            refine ⟨Nat.le_of_ble_eq_true rfl, Rd.new fun p H4 np gp s4 => ?_⟩
            have gl4 := s4 _ _ gl3
            have lp : p ≠ l := (ne_of_none gl3 np).symm
            have hP : ∀ y ∈ [cutS z none (some (1 + lo + 1 + hi)), cutS z (some (1 + lo)) (some (1 + lo + 1 + hi)), cutS z (some (1 + lo)) none], Lt.Let y ∧ 1 ≤ y.length := by
              have e1 := Lt.cut_to (z := z) (b := 1 + lo + 1 + hi) (by omega)
              have e2 := Lt.cut_lenI (z := z) (a := 1 + lo) (b := 1 + lo + 1 + hi) (by omega) (by omega) (by omega)
              have e3 := Lt.cut_from (z := z) (a := 1 + lo) (by omega) (by omega)
              intro y hy
              simp only [List.mem_cons, List.not_mem_nil, or_false] at hy
              rcases hy with rfl | rfl | rfl
              · exact ⟨hz.ok.cut _ _, by omega⟩
              · exact ⟨hz.ok.cut _ _, by omega⟩
              · exact ⟨hz.ok.cut _ _, by omega⟩
            have gpS : SqL K H4 p (([cutS z none (some (1 + lo + 1 + hi)), cutS z (some (1 + lo)) (some (1 + lo + 1 + hi)), cutS z (some (1 + lo)) none] : List Str).map V.str) := .of gp
            walk_at "rd"
            refine ⟨⟨_, gpS⟩, for_list (K := K) (a := p) (xs := ([cutS z none (some (1 + lo + 1 + hi)), cutS z (some (1 + lo)) (some (1 + lo + 1 + hi)), cutS z (some (1 + lo)) none] : List Str).map V.str) (fun i σ H' => ∃ (ws : List Str) (o7 : Option V), σ = [some (.ref t), some (.str z), some (.int many), some (.int most), some (.ref l), some (.int (1 + lo)), some (.int (1 + lo + 1 + hi)), o7, none, none] ∧ H' l = some (.lst (ws.map V.str)) ∧ (∀ b, b ≠ l → H' b = H4 b) ∧ ws.Nodup ∧ ws.length ≤ i ∧ ∀ y ∈ ws, Lt.Wd most y)
              ⟨[], none, rfl, gl4, fun b _ => rfl, .nil, Nat.le_refl _, fun _ h => by simp at h⟩ (fun i σ H' _ ⟨_, _, _, _, off, _⟩ => .of (by rw [off p lp]; exact gp)) ?_ ?_⟩
            · rintro i x _ H5 hx ⟨ws, o7, rfl, gl5, off5, nd, wl, hw⟩
              obtain ⟨y, hy, rfl⟩ := Rd.map_strG hx
              have il : i < 3 := (List.getElem?_eq_some_iff.mp hy).1
              have hy2 := hP y (List.mem_of_getElem? hy)
              walk_at "rd"
              refine Rd.lenStr (by
                have : y.length ≤ z.length := by
                  have := List.mem_of_getElem? hy
                  simp only [List.mem_cons, List.not_mem_nil, or_false] at this
                  rcases this with rfl | rfl | rfl <;> exact cutS_length _ _ _
                omega) ?_
              walk_at "rd"
              refine ite2 (fun q5 => ?_) (fun q5 => ?_)
              · walk_at "rd"
                refine Rd.inStrsN (.inl (.of gl5)) ?_
                walk_at "rd"
                refine ite2 (fun q6 => ?_) (fun q6 => ?_)
                · walk_at "rd"
                  exact ⟨ws, _, rfl, gl5, off5, nd, by omega, hw⟩
                · walk_at "rd"
                  refine Rd.tyL (.of gl5) ?_
                  walk_at "rd"
                  refine Rd.app gl5 (by rw [List.length_map, sizeLine_eq]; omega) fun G6 g6 off6 => ?_
                  walk_at "rd"
                  exact ⟨ws ++ [y], _, rfl, by rw [List.map_append]; exact g6, fun b hb => by rw [off6 b hb]; exact off5 b hb, snoc_nodup nd q6, by rw [List.length_append]; exact Nat.succ_le_succ wl, snoc_all hw ⟨hy2.1, hy2.2, q5⟩⟩
              · walk_at "rd"
                exact ⟨ws, _, rfl, gl5, off5, nd, by omega, hw⟩
            · rintro _ H5 ⟨ws, o7, rfl, gl5, off5, nd, wl, hw⟩
              have wl : ws.length ≤ 3 := wl
              have tp5 : Tape H5 t c := (tp3.same s4).off lt lc off5
              have b05 : Rd.But t H H5 := but_off (b03.same s4) nl off5
              walk_at "rd"
              refine Rd.len (.inl (.of gl5)) ?_
              rw [List.length_map]
              walk_at "rd"
              refine ite2 (fun q5 => ?_) (fun q5 => ?_)
              · walk_at "rd"
                refine pickR tp5 (by decide) (by decide) fun r6 H6 r60 r61 tp6 b6 => ?_
                have gl6 := b6 l _ lt gl5
                walk_at "rd"
                refine ite2 (fun q6 => ?_) (fun q6 => ?_)
                · walk_at "rd"
                  exact k l ws H6 tp6 (b05.trans b6) nl gl6 nd (by omega) hw (fun _ e => by rw [e] at q5; simp at q5)
                · walk_at "rd"
                  exact ⟨ws, _, _, _, rfl, tp6, b05.trans b6, gl6, nd, by omega, hw⟩
              · walk_at "rd"
                exact ⟨ws, _, _, _, rfl, tp5, b05, gl5, nd, by omega, hw⟩
          · walk_at "rd"
            exact ⟨[], _, _, _, rfl, tp1, b01, gl1, .nil, m0, fun _ h => by simp at h⟩
        · walk_at "rd"
          exact ⟨[], _, _, _, rfl, tp.same sG, Rd.But.of sG, gl, .nil, m0, fun _ h => by simp at h⟩
      · walk_at "rd"
        exact ⟨[], _, _, _, rfl, tp.same sG, Rd.But.of sG, gl, .nil, m0, fun _ h => by simp at h⟩
    · rintro _ H1 ⟨ws0, o5, o6, o7, rfl, tp1, b1, gl1, nd, wl, hw⟩
      walk_at "rd"
      refine Rd.forS ?_
      walk_at "rd"
      refine Rd.len (.inl (.of gl1)) ?_
      rw [List.length_map]
      walk_at "rd"
      refine ⟨by omega, by omega, ?_⟩
      refine for_range (lo := 0) (n := (many - (ws0.length : Int)).toNat) (fun i σ H' => ∃ (ws : List Str) (o8 o9 : Option V), σ = [some (.ref t), some (.str z), some (.int many), some (.int most), some (.ref l), o5, o6, o7, o8, o9] ∧ Tape H' t c ∧ Rd.But t H H' ∧ H' l = some (.lst (ws.map V.str)) ∧ ws.Nodup ∧ ws.length ≤ ws0.length + i ∧ (∀ y ∈ ws, Lt.Wd most y) ∧ (1 ≤ ws0.length + i → ws ≠ []))
        ⟨ws0, none, none, rfl, tp1, b1, gl1, nd, Nat.le_refl _, hw, fun p e => by rw [e] at p; simp at p⟩ ?_ ?_
      · rintro i _ H2 hi ⟨ws, o8, o9, rfl, tp2, b2, gl2, nd, wl2, hw, wn⟩
        walk_at "rd"
        refine ⟨t, c, z, most, rfl, tp2, hz, n0, by omega, fun y H3 hy tp3 b3 => ?_⟩
        have gl3 := b3 l _ lt gl2
        walk_at "rd"
        refine Rd.inStrsN (.inl (.of gl3)) ?_
        walk_at "rd"
        refine ite2 (fun q6 => ?_) (fun q6 => ?_)
        · walk_at "rd"
          exact ⟨ws, _, _, rfl, tp3, b2.trans b3, gl3, nd, by omega, hw, fun _ e => by rw [e] at q6; simp at q6⟩
        · walk_at "rd"
          refine Rd.tyL (.of gl3) ?_
          walk_at "rd"
          refine Rd.app gl3 (by rw [List.length_map, sizeLine_eq]; omega) fun G6 g6 off6 => ?_
          walk_at "rd"
          exact ⟨ws ++ [y], _, _, rfl, tp3.off lt lc off6, but_off (b2.trans b3) nl off6, by rw [List.map_append]; exact g6, snoc_nodup nd q6, by rw [List.length_append]; exact Nat.succ_le_succ wl2, snoc_all hw hy, fun _ e => by simp at e⟩
      · rintro _ H2 ⟨ws, o8, o9, rfl, tp2, b2, gl2, nd, wl2, hw, wn⟩
        walk_at "rd"
        exact k l ws H2 tp2 b2 nl gl2 nd (by omega) hw fun p => wn (by omega)
end
end W

namespace W
open PySem PySem.Spec PyProof.Rows L2
section
variable {P : Program} {w : World} {K : PySem.W.Frag} {mg : Str → Option Value} {base : Heap}
/-! ### spots beside a spot -/
theorem adj_near {ws : List Str} {z : Str} (hw : ∀ W ∈ ws, 1 ≤ W.length) {i j : Nat} (hi : i ≤ z.length) (hj : j ≤ z.length) : Mw.Adj ws z i j ↔ j ≠ i ∧ cutS z (some (min (i : Int) (j : Int))) (some (max (i : Int) (j : Int))) ∈ ws := by
  constructor
  · rintro ⟨W, m, ⟨⟨o1, o2⟩, e⟩ | ⟨⟨o1, o2⟩, e⟩⟩
    · have := hw W m
      refine ⟨by omega, ?_⟩
      rw [show min (i : Int) (j : Int) = i by omega, show max (i : Int) (j : Int) = (i : Int) + (W.length : Int) by omega, o2]
      exact m
    · have := hw W m
      refine ⟨by omega, ?_⟩
      rw [show min (i : Int) (j : Int) = j by omega, show max (i : Int) (j : Int) = (j : Int) + (W.length : Int) by omega, o2]
      exact m
  · rintro ⟨ne, m⟩
    have l := Lt.cut_lenI (z := z) (a := min (i : Int) (j : Int)) (b := max (i : Int) (j : Int)) (by omega) (by omega) (by omega)
    refine ⟨_, m, ?_⟩
    rcases Nat.lt_or_ge i j with c | c
    · refine .inl ⟨⟨by omega, ?_⟩, by omega⟩
      rw [l]
      rw [show min (i : Int) (j : Int) = i by omega, show max (i : Int) (j : Int) = j by omega, show (i : Int) + ((j : Int) - (i : Int)) = j by omega]
    · refine .inr ⟨⟨by omega, ?_⟩, by omega⟩
      rw [l]
      rw [show min (i : Int) (j : Int) = j by omega, show max (i : Int) (j : Int) = i by omega, show (j : Int) + ((i : Int) - (j : Int)) = i by omega]
def sp_l_near (K : PySem.W.Frag) : Sp := fun vs H Q _ => ∃ (a : Addr) (ws : List Str) (z : Str) (s : Nat), vs = [.ref a, .str z, .int (s : Nat)] ∧ SqL K H a (ws.map V.str) ∧ (∀ W ∈ ws, 1 ≤ W.length) ∧ z.length ≤ 1000 ∧ s ≤ z.length ∧
  ∀ (l : Addr) (xs : List Int) H', Same H H' → H l = none → H' l = some (.lst (xs.map V.int)) → (∀ x, x ∈ xs ↔ ∃ j : Nat, x = j ∧ Mw.Adj ws z s j) → xs.length ≤ z.length + 1 → xs.Pairwise (· < ·) → Q (.ref l) H'
end
end W

namespace W
open PySem PySem.Spec PyProof.Rows L2
section
variable {P : Program} {w : World} {K : PySem.W.Frag} {mg : Str → Option Value} {base : Heap}
/-! ### naturals as values -/
def natV (P : List Nat) : List V := (P.map fun i : Nat => (i : Int)).map V.int
theorem natV_len (P : List Nat) : (natV P).length = P.length := by
  unfold natV
  rw [List.length_map, List.length_map]
theorem natV_get {P : List Nat} {i : Nat} {x : V} (h : (natV P)[i]? = some x) : ∃ j, P[i]? = some j ∧ x = .int (j : Nat) := by
  unfold natV at h
  rw [List.map_map, List.getElem?_map] at h
  cases e : P[i]? with
  | none => rw [e] at h; cases h
  | some j => rw [e] at h; exact ⟨j, rfl, (Option.some.inj h).symm⟩
theorem mem_nat {P : List Nat} {i : Nat} : ((i : Int) ∈ P.map fun j : Nat => (j : Int)) ↔ i ∈ P := by
  rw [List.mem_map]
  constructor
  · rintro ⟨j, m, e⟩
    rw [show i = j by omega]
    exact m
  · exact fun m => ⟨i, m, rfl⟩
theorem paired_mono {α β : Type} {R S : α → β → Prop} {xs : List α} {ys : List β} (h : Paired R xs ys) (f : ∀ x y, R x y → S x y) : Paired S xs ys := by
  induction h with
  | nil => exact .nil
  | cons a _ ih => exact .cons (f _ _ a) ih
theorem paired_app {α β : Type} {R : α → β → Prop} {xs us : List α} {ys ws : List β} (h : Paired R xs ys) (k : Paired R us ws) : Paired R (xs ++ us) (ys ++ ws) := by
  induction h with
  | nil => exact k
  | cons a _ ih => exact .cons a ih
theorem paired_at {α β : Type} {R : α → β → Prop} {xs : List α} {ys : List β} (h : Paired R xs ys) : ∀ {i : Nat} {x : α}, xs[i]? = some x → ∃ y, ys[i]? = some y ∧ R x y := by
  induction h with
  | nil => intro i x e; simp at e
  | cons a _ ih =>
    intro i x e
    cases i with
    | zero => cases e; exact ⟨_, rfl, a⟩
    | succ i => exact ih e

end
end W

namespace W
open PySem PySem.Spec PyProof.Rows L2
section
variable {P : Program} {w : World} {K : PySem.W.Frag} {mg : Str → Option Value} {base : Heap}
/-! ### distances, the least of the shortest ways -/
def ov : Option Nat → V
  | none => .non
  | some d => .int (d : Nat)
def Fl (L : List V) (F : Nat → Option Nat) (n : Nat) : Prop := L.length = n + 1 ∧ ∀ i, i ≤ n → L[i]? = some (ov (F i))
theorem Fl.get {L : List V} {F : Nat → Option Nat} {n i : Nat} (h : Fl L F n) (hi : i ≤ n) : atI L (i : Int) = some (ov (F i)) := atI_nat (h.2 i hi)
theorem Fl.set {L : List V} {F : Nat → Option Nat} {n i d : Nat} (h : Fl L F n) (hi : i ≤ n) : Fl (L.set i (.int (d : Nat))) (fun j => if j = i then some d else F j) n := by
  refine ⟨by rw [List.length_set]; exact h.1, fun j hj => ?_⟩
  rw [List.getElem?_set]
  by_cases c : i = j
  · rw [if_pos c, if_pos (by have := h.1; omega)]
    show some (V.int (d : Nat)) = some (ov (if j = i then some d else F j))
    rw [if_pos c.symm]
    rfl
  · rw [if_neg c]
    show L[j]? = some (ov (if j = i then some d else F j))
    rw [if_neg (fun e : j = i => c e.symm)]
    exact h.2 j hj
theorem rep_non (k : Nat) : (List.replicate k [V.non]).flatten = List.replicate k V.non := by
  induction k with
  | zero => rfl
  | succ k ih => rw [List.replicate_succ, List.flatten_cons, ih, List.replicate_succ]; rfl
def sp_distances (K : PySem.W.Frag) : Sp := fun vs H Q _ => ∃ (p : Addr) (n : Nat) (A : Nat → Nat → Prop), vs = [.ref p] ∧ Links K H p n A ∧ n ≤ 1000 ∧ (∀ i j, A i j → j ≤ n) ∧
  ∀ (l : Addr) (L : List V) (F : Nat → Option Nat) H', H' l = some (.lst L) → Fl L F n → (∀ i, i ≤ n → ∀ d, F i = some d ↔ Mz.Dist A n i d) → Same H H' → H l = none → Q (.ref l) H'
theorem ok_distances (T : Txt w K mg) : FnOk P w K mg base CX0 1 T.f_distances T.fd_distances ["links"] (sp_distances K) := by
  refine T.F_distances.ok sc_distances (fun vs H Q E h => ?_) (fun cdv A outer s H vs Q E hr h => ?_)
  · obtain ⟨p, n, A, rfl, _⟩ := h
    rfl
  · obtain ⟨p, n, A, rfl, hL, hn, hA, k⟩ := h
    refine ⟨_, (pss_cons (ps_set (i := 1) sc_distances.nd rfl (.inl rfl) (pe_op op_rep (pe_lst (pa_cons pe_non pa_nil)) (pe_callB (id := "len") (r := Rd.nLen K) Rd.c_len (by rfl) T.n_len (by decide +kernel) (pa_cons (pv 0) pa_nil))))
  (pss_cons (ps_asg pe_int (pg_sub (pv 1) (pe_un un_neg pe_int) set_list))
  (pss_cons (ps_set (i := 2) sc_distances.nd rfl (.inl rfl) (pe_lst (pa_cons (pe_op op_sub (pe_callB (id := "len") (r := Rd.nLen K) Rd.c_len (by rfl) T.n_len (by decide +kernel) (pa_cons (pv 0) pa_nil)) pe_int) pa_nil)))
  (pss_cons (ps_while PassesOwn.never (pt_cmpR op_gt (pe_callB (id := "len") (r := Rd.nLen K) Rd.c_len (by rfl) T.n_len (by decide +kernel) (pa_cons (pv 2) pa_nil)) pe_int (nomark _))
  (pss_cons (ps_set (i := 3) sc_distances.nd rfl (.inl rfl) (pe_lst pa_nil))
  (pss_cons (ps_for PassesOwn.never rfl (pi_list (pv 2)) (pg_name (i := 4) sc_distances.nd rfl (.inl rfl))
  (pss_one (ps_for PassesOwn.never rfl (pi_list (pe_ix (r := rIxL K) ix_list (pv 0) (pv 4) (fun _ _ => rfl))) (pg_name (i := 5) sc_distances.nd rfl (.inl rfl))
  (pss_one (ps_if (pt_cmpR op_isN (pe_ix (r := rIxL K) ix_list (pv 1) (pv 5) (fun _ _ => rfl)) pe_non (nomark _))
  (pss_cons (ps_asg (pe_op op_add (pe_ix (r := rIxL K) ix_list (pv 1) (pv 4) (fun _ _ => rfl)) pe_int) (pg_sub (pv 1) (pv 5) set_list))
  (pss_one (ps_expr (pe_bm PySem.F.plainAttrs_list PySem.F.slot_list_append PySem.F.type_list_append mt_append (pv 3) (pa_cons (pv 5) pa_nil)))))
  pss_nil)))))
  (pss_one (ps_set (i := 2) sc_distances.nd rfl (.inl rfl) (pv 3))))))
  (pss_one (ps_ret (pv 1))))))), ?_⟩
    obtain ⟨rs, hp, rl, hr⟩ := hL
    walk_at "rd"
    refine ⟨Nat.le_of_ble_eq_true rfl, Rd.new fun e0 G0 ne0 ge0 s0 => ?_⟩
    walk_at "rd"
    refine Rd.len (.inl (s0.seq hp)) ?_
    rw [List.length_map, rl]
    refine Rd.rep ge0 (by omega) (by omega) (by rw [sizeLine_eq]; show 1 * _ ≤ _; omega) (Rd.new fun f G1 nf gf s1 => ?_)
    rw [show ((n + 1 : Nat) : Int).toNat = n + 1 from rfl, rep_non] at gf
    walk_at "rd"
    refine Rd.setG gf (j := n) (by rw [List.length_replicate]; unfold ixN; rw [if_neg (by decide), if_pos (by omega)]; congr 1; omega) rfl fun G2 g2 off2 => ?_
    have s2 : Same H G2 := fun b o e => by
      rw [off2 b (ne_of_none (s0 _ _ e) nf)]
      exact s1 _ _ (s0 _ _ e)
    have nfH : H f = none := s0.free nf
    walk_at "rd"
    refine Rd.len (.inl (s2.seq hp)) ?_
    rw [List.length_map, rl]
    walk_at "rd"
    refine ⟨Nat.le_of_ble_eq_true rfl, Rd.new fun ra G3 nra gra s3 => ?_⟩
    have fl0 : Fl (List.replicate (n + 1) V.non |>.set n (.int ((0 : Nat) : Int))) (fun j => if j = n then some 0 else none) n := by
      refine Fl.set (F := fun _ => none) ⟨by rw [List.length_replicate], fun i hi => ?_⟩ (Nat.le_refl n)
      rw [List.getElem?_replicate, if_pos (by omega)]
      rfl
    walk_at "rd"
    refine Rd.whl (fun m σ H' => ∃ (k : Nat) (F : Nat → Option Nat) (L : List V) (ra : Addr) (xs : List Int) (o3 o4 o5 : Option V), σ = [some (.ref p), some (.ref f), some (.ref ra), o3, o4, o5] ∧ H' f = some (.lst L) ∧ Fl L F n ∧ H' ra = some (.lst (xs.map V.int)) ∧ Same H H' ∧ ra ≠ f ∧
        (∀ i, i ≤ n → ∀ d, F i = some d ↔ (Mz.Dist A n i d ∧ d ≤ k)) ∧ (∀ x, x ∈ xs ↔ ∃ i : Nat, x = i ∧ Mz.Dist A n i k) ∧ m = if xs = [] then 0 else n + 1 - k)
      ⟨_, 0, _, _, ra, [((n + 1 : Nat) : Int) - 1], none, none, none, rfl, s3 _ _ g2, fl0, gra, s2.trans s3, (ne_of_none g2 nra).symm, fun i hi d => ?_, fun x => ?_, rfl⟩ ?_
    · by_cases c : i = n
      · rw [if_pos c, c]
        constructor
        · intro h
          cases h
          exact ⟨Mz.Dist.zero, Nat.le_refl _⟩
        · rintro ⟨h, _⟩
          rw [h.inj Mz.Dist.zero]
      · rw [if_neg c]
        constructor
        · intro h
          cases h
        · rintro ⟨h, l⟩
          have : d = 0 := by omega
          subst this
          exact absurd (Mz.Dist.zero_iff.mp h) (fun e => c e.symm)
    · rw [List.mem_singleton]
      constructor
      · intro h
        exact ⟨n, by omega, Mz.Dist.zero⟩
      · rintro ⟨i, h, d⟩
        have := Mz.Dist.zero_iff.mp d
        omega
    rintro m _ H1 ⟨k0, F, L, ra, xs, o3, o4, o5, rfl, gf1, fl, gra1, s1', raf, hF, hxs, rfl⟩
    walk_at "rd"
    refine Rd.len (.inl (.of gra1)) ?_
    rw [List.length_map]
    walk_at "rd"
    refine ite2 (fun c => ?_) (fun c => ?_)
    · have xne : xs ≠ [] := fun e => by rw [e] at c; simp at c
      rw [if_neg xne]
      have kn : k0 ≤ n := by
        obtain ⟨x, hx⟩ := List.exists_mem_of_ne_nil _ xne
        obtain ⟨i, _, d⟩ := (hxs x).mp hx
        exact d.le hA (Nat.le_refl n)
      refine Rd.whN ?_
      walk_at "rd"
      refine ⟨Nat.zero_le _, Rd.new fun la G4 nla gla s4 => ?_⟩
      have nla1 : H la = none := s1'.free nla
      have laf : la ≠ f := (ne_of_none gf1 nla).symm
      have rala : ra ≠ la := ne_of_none gra1 nla
      have hpS : ∀ {H'}, Same H H' → SqL K H' p (rs.map V.ref) := fun s => s.seq hp
      walk_at "rd"
      refine Rd.forS ?_
      walk_at "rd"
      refine ⟨⟨_, .of (s4 _ _ gra1)⟩, for_list (K := K) (a := ra) (xs := xs.map V.int) (fun a σ H' => ∃ (F' : Nat → Option Nat) (L' : List V) (ys : List Int) (o4 o5 : Option V), σ = [some (.ref p), some (.ref f), some (.ref ra), some (.ref la), o4, o5] ∧ H' f = some (.lst L') ∧ Fl L' F' n ∧ H' la = some (.lst (ys.map V.int)) ∧ Same H H' ∧ H' ra = some (.lst (xs.map V.int)) ∧
          (∀ i d, i ≤ n → F i = some d → F' i = some d) ∧ (∀ i d, i ≤ n → F' i = some d → F i = some d ∨ (d = k0 + 1 ∧ (i : Int) ∈ ys)) ∧ ys.Nodup ∧ (∀ y ∈ ys, ∃ i : Nat, y = i ∧ i ≤ n ∧ F' i = some (k0 + 1) ∧ Mz.Dist A n i (k0 + 1)) ∧ ∀ s : Nat, (s : Int) ∈ xs.take a → ∀ i, A s i → F' i ≠ none)
        ⟨F, L, [], _, _, rfl, s4 _ _ gf1, fl, gla, s1'.trans s4, s4 _ _ gra1, fun i d _ h => h, fun i d _ h => .inl h, .nil, fun y h => by simp at h, fun s h => by simp at h⟩ (fun a σ H' _ ⟨_, _, _, _, _, _, _, _, _, _, g, _⟩ => .of g) ?_ ?_⟩
      · rintro a x0 _ H2 hx0 ⟨F1, L1, ys, o4, o5, rfl, gf2, fl1, gla2, sm2, gra2, hA1, hA2, nd, hys, cov⟩
        obtain ⟨x, hx, rfl⟩ := Rd.map_get hx0
        obtain ⟨s, rfl, ds⟩ := (hxs x).mp (List.mem_of_getElem? hx)
        have sn : s ≤ n := Mz.Steps.le hA (Nat.le_refl n) ds.1
        have hrow : s < rs.length := by omega
        obtain ⟨ms, m1, _, m2⟩ := hr s _ (List.getElem?_eq_getElem hrow)
        have Fs : F s = some k0 := (hF s sn k0).mpr ⟨ds, Nat.le_refl _⟩
        walk_at "rd"
        refine Rd.forS ?_
        walk_at "rd"
        refine Rd.ixL (hpS sm2) (atI_nat (Rd.map_ref hrow)) ?_
        walk_at "rd"
        refine ⟨⟨_, sm2.seq m1⟩, for_list (K := K) (a := rs[s]) (xs := ms.map V.int) (fun b σ H' => ∃ (F' : Nat → Option Nat) (L' : List V) (ys : List Int) (o5 : Option V), σ = [some (.ref p), some (.ref f), some (.ref ra), some (.ref la), some (.int (s : Int)), o5] ∧ H' f = some (.lst L') ∧ Fl L' F' n ∧ H' la = some (.lst (ys.map V.int)) ∧ Same H H' ∧ H' ra = some (.lst (xs.map V.int)) ∧
            (∀ i d, i ≤ n → F i = some d → F' i = some d) ∧ (∀ i d, i ≤ n → F' i = some d → F i = some d ∨ (d = k0 + 1 ∧ (i : Int) ∈ ys)) ∧ ys.Nodup ∧ (∀ y ∈ ys, ∃ i : Nat, y = i ∧ i ≤ n ∧ F' i = some (k0 + 1) ∧ Mz.Dist A n i (k0 + 1)) ∧ (∀ s : Nat, (s : Int) ∈ xs.take a → ∀ i, A s i → F' i ≠ none) ∧ ∀ i : Nat, (i : Int) ∈ ms.take b → F' i ≠ none)
          ⟨F1, L1, ys, _, rfl, gf2, fl1, gla2, sm2, gra2, hA1, hA2, nd, hys, cov, fun i h => by simp at h⟩ (fun b σ H' _ ⟨_, _, _, _, _, _, _, _, g, _⟩ => g.seq m1) ?_ ?_⟩
        · rintro b y0 _ H3 hy0 ⟨F2, L2, ys2, o5, rfl, gf3, fl2, gla3, sm3, gra3, hB1, hB2, nd2, hys2, cov2, cin⟩
          obtain ⟨y, hy, rfl⟩ := Rd.map_get hy0
          obtain ⟨i, rfl, ai⟩ := (m2 y).mp (List.mem_of_getElem? hy)
          have iN : i ≤ n := hA _ _ ai
          have ylen : ys2.length ≤ n + 1 := Mw.nodup_range nd2 fun v hv => by obtain ⟨j, e, l, _⟩ := hys2 v hv; omega
          walk_at "rd"
          refine Rd.ixL (.of gf3) (fl2.get iN) ?_
          walk_at "rd"
          refine ⟨rfl, ?_⟩
          walk_at "rd"
          refine ite2 (fun q => ?_) (fun q => ?_)
          · have Fi : F2 i = none := by
              cases e : F2 i with
              | none => rfl
              | some d => rw [e] at q; cases q
            have Fi0 : F i = none := by
              cases e : F i with
              | none => rfl
              | some d => have := hB1 i d iN e; rw [Fi] at this; cases this
            have di : Mz.Dist A n i (k0 + 1) := ds.next ai fun j hj d => by
              have := (hF i iN j).mpr ⟨d, hj⟩
              rw [Fi0] at this
              cases this
            walk_at "rd"
            refine Rd.ixL (v := .int ((k0 : Nat) : Int)) (.of gf3) (by rw [fl2.get sn, hB1 s k0 sn Fs]; rfl) ?_
            walk_at "rd"
            refine Rd.setG gf3 (j := i) (by rw [fl2.1]; exact Rd.ixN_of (i := (i : Int)) (by omega) (by omega)) rfl fun G5 g5 off5 => ?_
            have gla5 : G5 la = some (.lst (ys2.map V.int)) := by rw [off5 la laf]; exact gla3
            walk_at "rd"
            refine Rd.tyL (.of gla5) ?_
            walk_at "rd"
            refine Rd.app gla5 (by rw [List.length_map, sizeLine_eq]; omega) fun G6 g6 off6 => ?_
            walk_at "rd"
            have fl3 := fl2.set (d := k0 + 1) iN
            have iy : ¬ (i : Int) ∈ ys2 := fun h => by
              obtain ⟨j, e, _, h2, _⟩ := hys2 _ h
              have : i = j := by omega
              subst this
              rw [Fi] at h2
              cases h2
            refine ⟨_, _, ys2 ++ [(i : Int)], _, rfl, by rw [off6 f laf.symm]; exact g5, fl3, by rw [List.map_append]; exact g6, fun b o e => ?_, by rw [off6 ra rala, off5 ra raf]; exact gra3, fun j d jn h => ?_, fun j d jn h => ?_, ?_, fun v hv => ?_, fun s' hs j aj => ?_, fun j hj => ?_⟩
            · rw [off6 b (ne_of_none e nla1), off5 b (ne_of_none e nfH)]
              exact sm3 b o e
            · by_cases c : j = i
              · subst c
                rw [Fi0] at h
                cases h
              · rw [if_neg c]
                exact hB1 j d jn h
            · by_cases c : j = i
              · rw [if_pos c] at h
                cases h
                exact .inr ⟨rfl, List.mem_append.mpr (.inr (by rw [c]; simp))⟩
              · rw [if_neg c] at h
                exact (hB2 j d jn h).imp id fun ⟨h1, h2⟩ => ⟨h1, List.mem_append.mpr (.inl h2)⟩
            · exact snoc_nodup nd2 iy
            · rcases List.mem_append.mp hv with h | h
              · obtain ⟨j, e1, e2, e3, e4⟩ := hys2 v h
                refine ⟨j, e1, e2, ?_, e4⟩
                split
                · rfl
                · exact e3
              · simp at h
                exact ⟨i, h, iN, by rw [if_pos rfl], di⟩
            · split
              · exact fun h => nomatch h
              · exact cov2 s' hs j aj
            · split
              · exact fun h => nomatch h
              · rename_i c
                rw [Rd.take_snoc hy] at hj
                rcases List.mem_append.mp hj with h | h
                · exact cin j h
                · simp at h
                  exact absurd h (by omega)
          · walk_at "rd"
            refine ⟨F2, L2, ys2, _, rfl, gf3, fl2, gla3, sm3, gra3, hB1, hB2, nd2, hys2, cov2, fun j hj => ?_⟩
            rw [Rd.take_snoc hy] at hj
            rcases List.mem_append.mp hj with h | h
            · exact cin j h
            · simp at h
              have : j = i := by omega
              subst this
              intro e
              exact q (by rw [e]; rfl)
        · rintro _ H3 ⟨F2, L2, ys2, o5, rfl, gf3, fl2, gla3, sm3, gra3, hB1, hB2, nd2, hys2, cov2, cin⟩
          rw [List.length_map, List.take_length] at cin
          walk_at "rd"
          refine ⟨F2, L2, ys2, _, _, rfl, gf3, fl2, gla3, sm3, gra3, hB1, hB2, nd2, hys2, fun s' hs j aj => ?_⟩
          rw [Rd.take_snoc hx] at hs
          rcases List.mem_append.mp hs with h | h
          · exact cov2 s' h j aj
          · simp at h
            have : s' = s := by omega
            subst this
            exact cin j ((m2 _).mpr ⟨j, rfl, aj⟩)
      · rintro _ H2 ⟨F1, L1, ys, o4, o5, rfl, gf2, fl1, gla2, sm2, gra2, hA1, hA2, nd, hys, cov⟩
        rw [List.length_map, List.take_length] at cov
        walk_at "rd"
        have key : ∀ i, i ≤ n → ∀ d, F1 i = some d ↔ (Mz.Dist A n i d ∧ d ≤ k0 + 1) := fun i hi d => by
          constructor
          · intro h
            rcases hA2 i d hi h with h1 | ⟨rfl, h1⟩
            · have := (hF i hi d).mp h1
              exact ⟨this.1, by omega⟩
            · obtain ⟨j, e, _, _, dj⟩ := hys _ h1
              have : i = j := by omega
              subst this
              exact ⟨dj, Nat.le_refl _⟩
          · rintro ⟨h, l⟩
            by_cases c : d ≤ k0
            · exact hA1 i d hi ((hF i hi d).mpr ⟨h, c⟩)
            · have ed : d = k0 + 1 := by omega
              subst ed
              obtain ⟨s, hs, r⟩ := h.pred
              have := cov s ((hxs _).mpr ⟨s, rfl, hs⟩) i r
              cases e : F1 i with
              | none => exact absurd e this
              | some d' =>
                rcases hA2 i d' hi e with h1 | ⟨rfl, _⟩
                · have := ((hF i hi d').mp h1)
                  have e2 := this.1.inj h
                  omega
                · rfl
        have keyY : ∀ x, x ∈ ys ↔ ∃ i : Nat, x = i ∧ Mz.Dist A n i (k0 + 1) := fun x => by
          constructor
          · intro h
            obtain ⟨i, e, _, _, d⟩ := hys x h
            exact ⟨i, e, d⟩
          · rintro ⟨i, rfl, d⟩
            have hi : i ≤ n := Mz.Steps.le hA (Nat.le_refl n) d.1
            rcases hA2 i _ hi ((key i hi _).mpr ⟨d, Nat.le_refl _⟩) with h1 | ⟨_, h1⟩
            · have := ((hF i hi _).mp h1).2
              omega
            · exact h1
        refine ⟨if ys = [] then 0 else n + 1 - (k0 + 1), ?_, k0 + 1, F1, L1, la, ys, _, _, _, rfl, gf2, fl1, gla2, sm2, laf, key, keyY, rfl⟩
        split <;> omega
    · have xe : xs = [] := by
        cases xs with
        | nil => rfl
        | cons _ _ => exfalso; apply c; rw [List.length_cons]; omega
      subst xe
      walk_at "rd"
      refine k f L F H1 gf1 fl (fun i hi d => (hF i hi d).trans ⟨fun h => h.1, fun h => ⟨h, ?_⟩⟩) s1' nfH
      rcases Nat.lt_or_ge k0 d with l | l
      · obtain ⟨y, hy⟩ := h.all k0 (by omega)
        have := (hxs _).mpr ⟨y, rfl, hy⟩
        simp at this
      · exact l

end
end W

namespace W
open PySem PySem.Spec PyProof.Rows L2
section
variable {P : Program} {w : World} {K : PySem.W.Frag} {mg : Str → Option Value} {base : Heap}
/-! ### reached, classes, is_told -/
def sp_reached (K : PySem.W.Frag) : Sp := fun vs H Q _ => ∃ (p : Addr) (n : Nat) (A : Nat → Nat → Prop) (s : Nat), vs = [.ref p, .int (s : Nat)] ∧ Links K H p n A ∧ n ≤ 1000 ∧ (∀ i j, A i j → j ≤ n) ∧ s ≤ n ∧
  ∀ (r : Addr) H', Same H H' → H r = none → H' r = some (.lst (natV (Mc.cls A n s))) → Q (.ref r) H'
/-- lots of spots as tuples -/
def ClsAt (H : Hp) (l : Addr) (cs : List (List Nat)) : Prop := ∃ qs : List Addr, H l = some (.lst (qs.map V.ref)) ∧ Paired (fun q c => H q = some (.tup (natV c))) qs cs
theorem ClsAt.same {H H' : Hp} {l : Addr} {cs : List (List Nat)} (s : Same H H') (h : ClsAt H l cs) : ClsAt H' l cs := by
  obtain ⟨qs, g, p⟩ := h
  refine ⟨qs, s _ _ g, ?_⟩
  clear g
  induction p with
  | nil => exact .nil
  | cons a _ ih => exact .cons (s _ _ a) ih
def sp_classes (K : PySem.W.Frag) (C : Addr) : Sp := fun vs H Q _ => ∃ (b : Addr) (ws : List Str) (z : Str), vs = [.ref b, .str z] ∧ BookAt C H b ws ∧ Watches ws ∧ Lt.Wd 40 z ∧
  ∀ (l : Addr) H', Same H H' → H l = none → ClsAt H' l (Mc.classesTo (Mw.Adj ws z) z.length (z.length + 1)) → Q (.ref l) H'
def sp_is_told (K : PySem.W.Frag) (C : Addr) : Sp := fun vs H Q _ => ∃ (b : Addr) (ws : List Str) (z : Str), vs = [.ref b, .str z] ∧ BookAt C H b ws ∧ Watches ws ∧ Lt.Wd 40 z ∧ ∀ (t : Bool) H', Same H H' → (t = true ↔ Mw.Told ws z) → Q (.bl t) H'
end
end W

namespace W
open PySem PySem.Spec PyProof.Rows L2
section
variable {P : Program} {w : World} {K : PySem.W.Frag} {mg : Str → Option Value} {base : Heap}
/-! ### lots of spots compared -/
def natsV (cs : List (List Nat)) : List PyData := cs.map fun c => .tuple ((c.map fun i : Nat => (i : Int)).map PyData.int)
theorem dp_cls {K : PySem.W.Frag} {H : Hp} {l : Addr} {cs : List (List Nat)} (h : ClsAt H l cs) : Dp K H (.ref l) (.list (natsV cs)) := by
  obtain ⟨qs, g, p⟩ := h
  refine .lst (.of g) ?_
  clear g
  induction p with
  | nil => exact .nil
  | @cons q c _ _ a _ ih => exact .cons (.tup (.of a) (Rd.dpAll_ints (c.map fun i : Nat => (i : Int)))) ih
theorem shaped_nats (cs : List (List Nat)) : SeqAt.shaped (.list (natsV cs)) = true := by
  have h1 : PyData.canLay0 (.list (natsV cs)) = true := by
    show PyData.canLayAll0 (natsV cs) = true
    induction cs with
    | nil => rfl
    | cons c cs ih =>
      show (PyData.canLay0 (.tuple ((c.map fun i : Nat => (i : Int)).map PyData.int)) && PyData.canLayAll0 (natsV cs)) = true
      rw [ih, show PyData.canLay0 (.tuple ((c.map fun i : Nat => (i : Int)).map PyData.int)) = true from Rd.canLay_ints _]
      rfl
  have h2 : PyData.depthAll (natsV cs) ≤ 1 := by
    induction cs with
    | nil => decide
    | cons c cs ih =>
      show max (PyData.depth (.tuple ((c.map fun i : Nat => (i : Int)).map PyData.int))) (PyData.depthAll (natsV cs)) ≤ 1
      have : PyData.depth (.tuple ((c.map fun i : Nat => (i : Int)).map PyData.int)) = 1 := by
        show PyData.depthAll ((c.map fun i : Nat => (i : Int)).map PyData.int) + 1 = 1
        rw [Rd.depth_ints]
      have := ih (by show PyData.canLayAll0 (natsV cs) = true; exact (Bool.and_eq_true_iff.mp h1).2)
      omega
  have h3 : PyData.depth (.list (natsV cs)) ≤ 2 := Nat.succ_le_succ h2
  unfold SeqAt.shaped
  rw [h1, decide_eq_true (by omega)]
  rfl
theorem neCls {K : PySem.W.Frag} {H : Hp} {l m : Addr} {cs : List (List Nat)} {Q : VK} (h : ClsAt H l cs) (h' : ClsAt H m cs) (q : Q (.bl false) H) : rNeD K (.ref l) (.ref m) H Q := by
  refine ⟨_, _, dp_cls h, dp_cls h', shaped_nats cs, shaped_nats cs, ?_⟩
  rw [SeqAt.eqv_refl _ (SeqAt.canLay_of_shaped (shaped_nats cs))]
  exact q

end
end W

namespace W
open PySem PySem.Spec PyProof.Rows L2
section
variable {P : Program} {w : World} {K : PySem.W.Frag} {mg : Str → Option Value} {base : Heap}
/-! ### lots of spots sorted -/
def tupD (c : List Nat) : PyData := .tuple ((c.map fun i : Nat => (i : Int)).map PyData.int)
theorem alike_ints : ∀ xs ys : List Int, PySem.W.alikeAll (xs.map PyData.int) (ys.map PyData.int) = true
  | [], _ => by simp [PySem.W.alikeAll]
  | _ :: _, [] => by simp [PySem.W.alikeAll]
  | x :: xs, y :: ys => by
    have := alike_ints xs ys
    simp [PySem.W.alikeAll, PySem.W.alike, this]
theorem keys_cls {cs : List (List Nat)} (ne : ∀ c ∈ cs, c ≠ []) : Rs.Keys (cs.map tupD) where
  al d hd d' hd' := by
    obtain ⟨e, _, rfl⟩ := List.mem_map.mp hd
    obtain ⟨f, _, rfl⟩ := List.mem_map.mp hd'
    unfold tupD
    rw [PySem.W.alike]
    exact alike_ints _ _
  so := .inl fun d hd => by
    obtain ⟨e, m, rfl⟩ := List.mem_map.mp hd
    cases e with
    | nil => exact absurd rfl (ne _ m)
    | cons a r => exact ⟨_, _, rfl⟩
  dp d hd := by
    obtain ⟨e, _, rfl⟩ := List.mem_map.mp hd
    show PyData.depthAll ((e.map fun i : Nat => (i : Int)).map PyData.int) + 1 ≤ 50
    rw [Rd.depth_ints]
    decide
theorem tupD_inj : ∀ {a b : List Nat}, PySem.W.keyToks (tupD a) = PySem.W.keyToks (tupD b) → a = b
  | [], [], _ => rfl
  | [], y :: b, h => by simp [tupD, PySem.W.keyToks, PySem.W.keyToksAll] at h
  | x :: a, [], h => by simp [tupD, PySem.W.keyToks, PySem.W.keyToksAll] at h
  | x :: a, y :: b, h => by
    simp only [tupD, PySem.W.keyToks, PySem.W.keyToksAll, List.map_cons, List.cons_append, List.nil_append, List.cons.injEq, Sum.inl.injEq, true_and] at h
    have e1 : x = y := by omega
    have e2 : a = b := tupD_inj (by
      simp only [tupD, PySem.W.keyToks]
      exact h.2)
    rw [e1, e2]
theorem lt_heads {a b : Nat} {r q : List Nat} (h : a < b) : PySem.W.dataLt (tupD (b :: q)) (tupD (a :: r)) = false := by
  have n2 : (Sum.inl (b : Int) : Int ⊕ List Nat) ≠ Sum.inl (a : Int) := fun e => by
    have := Sum.inl.inj e
    omega
  unfold PySem.W.dataLt tupD
  rw [PySem.W.keyToks, PySem.W.keyToks, List.map_cons, List.map_cons, List.map_cons, List.map_cons, PySem.W.toks_all_cons, PySem.W.toks_all_cons]
  rw [lex_self (O := itemOrd), PySem.W.keyToks, PySem.W.keyToks, List.singleton_append, List.singleton_append, lex_diff (O := itemOrd) n2]
  show itemLt (.inl (b : Int)) (.inl (a : Int)) = false
  unfold itemLt
  exact decide_eq_false (by omega)
theorem sort_cls {cs ds : List (List Nat)} (p : cs.Perm ds) (asc : ds.Pairwise Mt.HeadLt) : cs.mergeSort (PySem.W.dataLe false tupD) = ds := by
  refine List.Perm.eq_of_pairwise (le := fun a b => PySem.W.dataLe false tupD a b = true) (fun a b _ _ h1 h2 => ?_) (PySem.W.sort_pairwise (PySem.W.sortLe_total _ _ _) cs) (asc.imp fun h => ?_) ((List.mergeSort_perm cs _).trans p)
  · replace h1 : (!PySem.W.dataLt (tupD b) (tupD a)) = true := h1
    replace h2 : (!PySem.W.dataLt (tupD a) (tupD b)) = true := h2
    rw [Bool.not_eq_true'] at h1 h2
    exact tupD_inj (PyProof.Rows.lex_total _ _ h2 h1)
  · obtain ⟨a, r, b, q, rfl, rfl, l⟩ := h
    show (!PySem.W.dataLt (tupD (b :: q)) (tupD (a :: r))) = true
    rw [lt_heads l]
    rfl
def TupAt (H : Hp) (x : V) (c : List Nat) : Prop := ∃ q, x = .ref q ∧ H q = some (.tup (natV c))
theorem tups_each {K : PySem.W.Frag} {H : Hp} {qs : List Addr} {cs : List (List Nat)} (h : Paired (fun q c => H q = some (.tup (natV c))) qs cs) : PySem.W.EachIs (fun x c => Dp K H x (tupD c) ∧ TupAt H x c) (qs.map V.ref) cs := by
  induction h with
  | nil => exact .nil
  | @cons q c _ _ a _ ih => exact .cons ⟨.tup (.of a) (Rd.dpAll_ints (c.map fun i : Nat => (i : Int))), q, rfl, a⟩ ih
theorem each_tups {K : PySem.W.Frag} {H H' : Hp} (s : Same H H') : ∀ {xs : List V} {cs : List (List Nat)}, PySem.W.EachIs (fun x c => Dp K H x (tupD c) ∧ TupAt H x c) xs cs → ∃ qs : List Addr, xs = qs.map V.ref ∧ Paired (fun q c => H' q = some (.tup (natV c))) qs cs
  | _, _, .nil => ⟨[], rfl, .nil⟩
  | _, _, .cons h t => by
    obtain ⟨qs, rfl, p⟩ := each_tups s t
    obtain ⟨_, q, rfl, g⟩ := h
    exact ⟨q :: qs, rfl, .cons (s _ _ g) p⟩
/-- sorted(..) of lots of spots -/
theorem sortCls {K : PySem.W.Frag} {H : Hp} {l : Addr} {cs ds : List (List Nat)} {Q : VK} (h : ClsAt H l cs) (p : cs.Perm ds) (asc : ds.Pairwise Mt.HeadLt) (nds : ∀ c ∈ ds, c ≠ []) (k : ∀ (m : Addr) (G : Hp), Same H G → H m = none → ClsAt G m ds → Q (.ref m) G) : Rs.rSortD K [.ref l] H Q := by
  obtain ⟨qs, g, pr⟩ := h
  have ne : ∀ c ∈ cs, c ≠ [] := fun c hc => nds c (p.mem_iff.mp hc)
  refine Rw.sortD tupD (fun x c => TupAt H x c) (.of g) (tups_each pr) (keys_cls ne) fun out m G ho nm gm sG => ?_
  rw [sort_cls p asc] at ho
  obtain ⟨ps, rfl, pp⟩ := each_tups sG ho
  exact k m G sG nm ⟨ps, gm, pp⟩

end
end W

namespace W
open PySem PySem.Spec PyProof.Rows L2
section
variable {P : Program} {w : World} {K : PySem.W.Frag} {mg : Str → Option Value} {base : Heap}
/-! ### the least of the shortest zigzags -/
/-- what shortest answers -/
def Zig (H H' : Hp) (ws : List Str) (z : Str) (r : V) : Prop := (r = .non ∧ ¬ Mw.Told ws z) ∨ ∃ (q : Addr) (P : List Nat), r = .ref q ∧ H' q = some (.tup (natV P)) ∧ H q = none ∧ Mz.Gr (Mw.Adj ws z) z.length 0 P
theorem gr_told {A : Nat → Nat → Prop} {n x : Nat} {P : List Nat} (h : Mz.Gr A n x P) : Mw.Star A x n := by
  cases h with
  | stop => exact .refl
  | step hx _ _ _ _ => exact Mz.star_dist.mpr ⟨_, hx⟩
def sp_shortest (K : PySem.W.Frag) : Sp := fun vs H Q _ => ∃ (a : Addr) (ws : List Str) (z : Str), vs = [.ref a, .str z] ∧ Ru.SqR K H a (ws.map V.str) ∧ (∀ W ∈ ws, 1 ≤ W.length ∧ W.length ≤ 1000) ∧ ws.length ≤ 100 ∧ z.length ≤ 1000 ∧ ∀ (r : V) H', Same H H' → Zig H H' ws z r → Q r H'
def sp_zigzag (K : PySem.W.Frag) (C : Addr) : Sp := fun vs H Q _ => ∃ (a : Addr) (ws : List Str) (z : Str), vs = [.ref a, .str z] ∧ BookAt C H a ws ∧ Watches ws ∧ Lt.Wd 40 z ∧ ∀ (r : V) H', Same H H' → Zig H H' ws z r → Q r H'
theorem filt_step {α : Type} {l : List α} {i : Nat} {x : α} {f : α → Bool} (h : l[i]? = some x) : (l.take (i + 1)).filter f = (l.take i).filter f ++ if f x = true then [x] else [] := by
  rw [Rd.take_snoc h, List.filter_append]
  congr 1
  cases e : f x <;> simp [e]
theorem sorted_head {l : List Int} {f : Int → Bool} (hp : l.Pairwise (· ≤ ·)) {x : Int} (hx : x ∈ l) (fx : f x = true) : ∃ w r, l.filter f = w :: r ∧ ∀ v ∈ l, f v = true → w ≤ v := by
  have hm : x ∈ l.filter f := List.mem_filter.mpr ⟨hx, fx⟩
  have hs := hp.sublist (List.filter_sublist (l := l) (p := f))
  cases e : l.filter f with
  | nil => rw [e] at hm; simp at hm
  | cons w r =>
    rw [e] at hs
    refine ⟨w, r, rfl, fun v hv fv => ?_⟩
    have : v ∈ w :: r := by rw [← e]; exact List.mem_filter.mpr ⟨hv, fv⟩
    rcases List.mem_cons.mp this with rfl | h
    · exact Int.le_refl _
    · exact (List.pairwise_cons.mp hs).1 v h
theorem ok_shortest (T : Txt w K mg) : FnOk P w K mg base CX0 2 T.f_shortest T.fd_shortest ["watches", "word"] (sp_shortest K) := by
  refine T.F_shortest.ok sc_shortest (fun vs H Q E h => ?_) (fun cdv A outer s H vs Q E hr h => ?_)
  · obtain ⟨a, ws, z, rfl, _⟩ := h
    rfl
  · obtain ⟨a, ws, z, rfl, hS, hw, l1, l2, k⟩ := h
    refine ⟨_, (pss_cons (ps_set (i := 2) sc_shortest.nd rfl (.inl rfl) (pe_call (ok_links_of T) (hr.mono (by decide)) rfl T.g_links_of T.F_links_of.kp T.b_links_of .nil pass0 (pa_cons (pv 0) (pa_cons (pv 1) pa_nil))))
  (pss_cons (ps_set (i := 3) sc_shortest.nd rfl (.inr rfl) (pe_call (ok_distances T) (hr.mono (by decide)) rfl T.g_distances T.F_distances.kp T.b_distances .nil pass0 (pa_cons (pv 2) pa_nil)))
  (pss_cons (ps_if (pt_cmpR op_isN (pe_ix (r := rIxL K) ix_list (pv 3) pe_int (fun _ _ => rfl)) pe_non (nomark _))
  (pss_one (ps_ret pe_non))
  pss_nil)
  (pss_cons (ps_set (i := 4) sc_shortest.nd rfl (.inl rfl) (pe_lst (pa_cons pe_int pa_nil)))
  (pss_cons (ps_while PassesOwn.never (pt_cmpR op_ne (pe_ix (r := rIxL K) ix_list (pv 4) (pe_un un_neg pe_int) (fun _ _ => rfl)) (pe_callB (id := "len") (r := _) Rd.c_lenS (by rfl) T.n_len (by decide +kernel) (pa_cons (pv 1) pa_nil)) (nomark _))
  (pss_cons (ps_set (i := 5) sc_shortest.nd rfl (.inr rfl) (pe_ix (r := rIxL K) ix_list (pv 4) (pe_un un_neg pe_int) (fun _ _ => rfl)))
  (pss_one (ps_expr (pe_bm PySem.F.plainAttrs_list PySem.F.slot_list_append PySem.F.type_list_append mt_append (pv 4) (pa_cons (pe_ix (r := rIxL K) ix_list (pe_lc (own := [("other", 6)]) (g := gName 6)  rfl sc_shortest.nd (pi_list (pe_ix (r := rIxL K) ix_list (pv 2) (pv 5) (fun _ _ => rfl))) (blkOk_by (own := [("other", 6)]) (N := ["watches", "word", "links", "far", "found", "spot", "other"]) (sc := defScope s_shortest) (by decide +kernel)) (fun _ _ _ _ _ => (pg_name (i := 6) sc_shortest.nd rfl (.inl rfl))) (fun _ _ _ _ _ => pts_one (pt_cmpR op_eq (pe_ix (r := rIxL K) ix_list (pv 3) (pv 6) (fun _ _ => rfl)) (pe_op op_sub (pe_ix (r := rIxL K) ix_list (pv 3) (pv 5) (fun _ _ => rfl)) pe_int) (nomark _))) (fun _ _ _ _ _ => (pv 6))) pe_int (fun _ _ => rfl)) pa_nil))))))
  (pss_one (ps_ret (pe_callTy (T := "tuple") (r := Rd.nTupOf K) Rd.c_tupOf (by rfl) T.n_tuple (by decide +kernel) (pa_cons (pv 4) pa_nil))))))))), ?_⟩
    walk_at "rd"
    refine ⟨a, ws, z, rfl, hS, hw, l1, l2, fun p H1 hL s1 _ _ => ?_⟩
    walk_at "rd"
    refine ⟨p, z.length, Mw.Adj ws z, rfl, hL, l2, fun i j h => h.le.2, fun l L F H2 gl fl hF s2 nl => ?_⟩
    have hsy : ∀ x y, Mw.Adj ws z x y → Mw.Adj ws z y x := fun x y h => Mw.Adj.symm x y h
    obtain ⟨rs, hp, rl, hr⟩ := hL.same s2
    have zl : z.length ≤ sizeLine := by rw [sizeLine_eq]; omega
    walk_at "rd"
    refine Rd.ixL (.of gl) (fl.get (i := 0) (Nat.zero_le _)) ?_
    walk_at "rd"
    refine ⟨rfl, ?_⟩
    walk_at "rd"
    refine ite2 (fun c => ?_) (fun c => ?_)
    · walk_at "rd"
      refine k _ _ (s1.trans s2) (.inl ⟨rfl, fun h => ?_⟩)
      obtain ⟨d, hd⟩ := Mz.star_dist.mp h
      have := (hF 0 (Nat.zero_le _) d).mpr (hd.symm hsy)
      rw [this] at c
      cases c
    · obtain ⟨d0, e0⟩ : ∃ d, F 0 = some d := by
        cases e : F 0 with
        | none => rw [e] at c; exact absurd rfl c
        | some d => exact ⟨d, rfl⟩
      have hd0 := (hF 0 (Nat.zero_le _) d0).mp e0
      walk_at "rd"
      refine ⟨Nat.le_of_ble_eq_true rfl, Rd.new fun g G ng gg sG => ?_⟩
      walk_at "rd"
      refine Rd.whl (fun m σ H' => ∃ (pre : List Nat) (cur : Nat) (o5 : Option V), σ = [some (.ref a), some (.str z), some (.ref p), some (.ref l), some (.ref g), o5, none] ∧ H' g = some (.lst (natV (pre ++ [cur]))) ∧ Same H2 H' ∧ cur ≤ z.length ∧ pre.length + m = d0 ∧ Mz.Dist (Mw.Adj ws z) z.length cur m ∧ ∀ P, Mz.Gr (Mw.Adj ws z) z.length cur P → Mz.Gr (Mw.Adj ws z) z.length 0 (pre ++ P))
        ⟨d0, [], 0, none, rfl, gg, sG, Nat.zero_le _, by simp, hd0, fun P h => h⟩ ?_
      rintro m _ H3 ⟨pre, cur, o5, rfl, gg3, s3, cn, pl, dc, gr⟩
      have last : atI (natV (pre ++ [cur])) (-1) = some (.int (cur : Int)) := by
        unfold natV
        rw [List.map_append, List.map_append]
        exact atI_last _ _
      walk_at "rd"
      refine Rd.ixL (.of gg3) last ?_
      walk_at "rd"
      refine Rd.lenStr zl ?_
      walk_at "rd"
      refine ite2 (fun c2 => ?_) (fun c2 => ?_)
      · have ec : cur = z.length := by omega
        subst ec
        walk_at "rd"
        refine Rd.tupOf (.of gg3) (Rd.new fun q G4 nq gq s4 => ?_)
        have s14 := ((s1.trans s2).trans s3).trans s4
        exact k _ _ s14 (.inr ⟨q, _, rfl, gq, ((s1.trans s2).trans s3).free nq, gr _ .stop⟩)
      · refine Rd.whN ?_
        have dn : Mz.Dist (Mw.Adj ws z) z.length z.length 0 := Mz.Dist.zero
        obtain ⟨m', rfl⟩ : ∃ m', m = m' + 1 := by
          cases m with
          | zero => exact absurd (Mz.Dist.zero_iff.mp dc) (fun e => c2 (by omega))
          | succ m' => exact ⟨m', rfl⟩
        have d0n : d0 ≤ z.length := hd0.le (fun i j h => h.le.2) (Nat.le_refl _)
        obtain ⟨y0, hy0, ry0⟩ := dc.pred
        have hrow : cur < rs.length := by omega
        obtain ⟨ms, m1, mp, m2⟩ := hr cur _ (List.getElem?_eq_getElem hrow)
        have Fc : F cur = some (m' + 1) := (hF cur cn _).mpr dc
        walk_at "rd"
        refine Rd.ixL (.of gg3) last ?_
        walk_at "rd"
        refine Rd.tyL (.of gg3) ?_
        walk_at "rd"
        refine Rd.ixL (s3.seq hp) (atI_nat (Rd.map_ref hrow)) ?_
        walk_at "rd"
        refine ⟨⟨_, s3.seq m1⟩, Rd.lcS walk_list (fun _ s => s.seq (s3.seq m1)) (fun D i acc Hc => acc = ((ms.take i).filter fun x => decide (F x.toNat = some m')).map V.int) (fun _ _ _ _ _ => rfl) ?_ ?_⟩
        · rintro D i x G1 _ acc nD hi hD sm rfl ⟨rfl, hx⟩
          obtain ⟨y, hy, rfl⟩ := Rd.map_get hx
          obtain ⟨j, rfl, aj⟩ := (m2 y).mp (List.mem_of_getElem? hy)
          have jn := aj.le.2
          have lim : ((((ms.take i).filter fun x => decide (F x.toNat = some m')).map V.int)).length < sizeLine := by
            rw [List.length_map, sizeLine_eq]
            have h1 := List.length_filter_le (fun x : Int => decide (F x.toNat = some m')) (ms.take i)
            rw [List.length_take] at h1
            have h2 := mp.2
            omega
          obtain ⟨e, hde⟩ : ∃ e, F j = some e := by
            obtain ⟨e, _, he⟩ := Mz.Steps.dist (A := Mw.Adj ws z) (x := z.length) (y := j) (k := m' + 1 + 1) ⟨cur, dc.1, aj⟩
            exact ⟨e, (hF j jn e).mpr he⟩
          have gl1 := sm _ _ (s3 _ _ gl)
          walk_at "rd"
          refine ⟨rfl, ?_⟩
          walk_at "rd"
          refine Rd.ixL (v := .int ((e : Nat) : Int)) (.of gl1) (by rw [fl.get jn, hde]; rfl) ?_
          walk_at "rd"
          refine Rd.ixL (v := .int ((m' + 1 : Nat) : Int)) (.of gl1) (by rw [fl.get cn, Fc]; rfl) ?_
          walk_at "rd"
          have st := filt_step (f := fun x : Int => decide (F x.toNat = some m')) hy
          rw [Int.toNat_natCast, hde] at st
          refine ite2 (fun q => ?_) (fun q => ?_)
          · have ee : e = m' := by omega
            subst ee
            rw [decide_eq_true rfl, if_pos rfl] at st
            walk_at "rd"
            refine Rd.lcPush hD nD sm lim fun G2 g2 off2 => ?_
            rw [st, List.map_append]
            rfl
          · have ee : ¬ some e = some m' := fun h => q (by cases h; omega)
            rw [decide_eq_false ee, if_neg Bool.false_ne_true, List.append_nil] at st
            walk_at "rd"
            refine ⟨_, hD, sm, ?_⟩
            dsimp only
            rw [st]
        · rintro D acc G1 nD hD sm rfl
          rw [List.length_map, List.take_length] at hD
          have yn : y0 ≤ z.length := Mz.Steps.le (fun i j h => h.le.2) (Nat.le_refl _) hy0.1
          obtain ⟨w, r, ef, hmin⟩ := sorted_head (f := fun x : Int => decide (F x.toNat = some m')) mp.1 ((m2 _).mpr ⟨y0, rfl, hsy _ _ ry0⟩) (by rw [Int.toNat_natCast]; exact decide_eq_true ((hF y0 yn _).mpr hy0))
          have wm : w ∈ ms.filter fun x : Int => decide (F x.toNat = some m') := by rw [ef]; exact List.mem_cons_self
          obtain ⟨wm1, wm2⟩ := List.mem_filter.mp wm
          obtain ⟨wi, rfl, aw⟩ := (m2 w).mp wm1
          rw [Int.toNat_natCast] at wm2
          have wn := aw.le.2
          have dw := (hF wi wn _).mp (of_decide_eq_true wm2)
          rw [ef] at hD
          walk_at "rd"
          refine Rd.ixL (.of hD) (atI_nat (j := 0) rfl) ?_
          walk_at "rd"
          refine Rd.app (sm _ _ gg3) (by unfold natV; rw [List.length_map, List.length_map, List.length_append, sizeLine_eq]; show _ + 1 < _; omega) fun G5 g5 off5 => ?_
          walk_at "rd"
          refine ⟨m', Nat.lt_succ_self _, pre ++ [cur], wi, _, rfl, ?_, fun b o e => ?_, wn, by rw [List.length_append]; show _ + 1 + _ = _; omega, dw, fun P h => ?_⟩
          · rw [g5]
            unfold natV
            simp
          · have bg : b ≠ g := ne_of_none e ng
            rw [off5 b bg]
            exact sm _ _ (s3 _ _ e)
          · rw [List.append_assoc]
            refine gr _ (.step (dc.symm hsy) aw (dw.symm hsy) (fun v av dv => ?_) h)
            have vn := av.le.2
            have := hmin (v : Int) ((m2 _).mpr ⟨v, rfl, av⟩) (by rw [Int.toNat_natCast]; exact decide_eq_true ((hF v vn _).mpr (dv.symm hsy)))
            omega
end
end W

namespace W
open PySem PySem.Spec PyProof.Rows L2
section
variable {P : Program} {w : World} {K : PySem.W.Frag} {mg : Str → Option Value} {base : Heap}
/-! ### costs: a dict from (spot, comes up) to (turns, steps) -/
def b2i (u : Bool) : Int := if u = true then 1 else 0
def keyS (s : Nat) (u : Bool) : List Key := [.inl (s : Int), .inl (b2i u)]
theorem keyS_inj {s s' : Nat} {u u' : Bool} (h : keyS s u = keyS s' u') : s = s' ∧ u = u' := by
  unfold keyS b2i at h
  have h1 : (s : Int) = s' := Sum.inl.inj (List.cons.inj h).1
  have h2 : (if u = true then (1 : Int) else 0) = if u' = true then 1 else 0 := Sum.inl.inj (List.cons.inj (List.cons.inj h).2).1
  refine ⟨by omega, ?_⟩
  cases u <;> cases u' <;> simp at h2 ⊢
def pairV (p : Nat × Nat) : List V := [.int (p.1 : Nat), .int (p.2 : Nat)]
/-- a value: none, or a pair -/
def Bst (H : Hp) (v : V) : Option (Nat × Nat) → Prop
  | none => v = .non
  | some p => ∃ q, v = .ref q ∧ H q = some (.tup (pairV p))
theorem Bst.same {H H' : Hp} {v : V} {b : Option (Nat × Nat)} (s : Same H H') (h : Bst H v b) : Bst H' v b := by
  cases b with
  | none => exact h
  | some p => obtain ⟨q, e, g⟩ := h; exact ⟨q, e, s _ _ g⟩
def Ent (H : Hp) (o : Option V) (b : Option (Nat × Nat)) : Prop := match b with
  | none => o = none
  | some p => ∃ q, o = some (.ref q) ∧ H q = some (.tup (pairV p))
theorem Ent.bst {H : Hp} {o : Option V} {b : Option (Nat × Nat)} (h : Ent H o b) : Bst H (o.getD .non) b := by
  cases b with
  | none => rw [show o = none from h]; rfl
  | some p => obtain ⟨q, e, g⟩ := h; exact ⟨q, by rw [e]; rfl, g⟩
structure CostAt (H : Hp) (d : Addr) (n : Nat) (F : Mk.Tab) (kvs : List (List Key × V)) : Prop where
  at_ : H d = some (.dT kvs)
  ent : ∀ s u, s ≤ n → Ent H (valV kvs (keyS s u)) (F s u)
theorem Ent.mono {H H' : Hp} {o : Option V} {b : Option (Nat × Nat)} (k : ∀ q xs, H q = some (.tup xs) → H' q = some (.tup xs)) (h : Ent H o b) : Ent H' o b := by
  cases b with
  | none => exact h
  | some p => obtain ⟨q, e, g⟩ := h; exact ⟨q, e, k _ _ g⟩
theorem CostAt.same {H H' : Hp} {d : Addr} {n : Nat} {F : Mk.Tab} {kvs : List (List Key × V)} (s : Same H H') (h : CostAt H d n F kvs) : CostAt H' d n F kvs := ⟨s _ _ h.at_, fun x u l => (h.ent x u l).mono fun q xs e => s _ _ e⟩
theorem CostAt.put {H G : Hp} {d : Addr} {n : Nat} {F : Mk.Tab} {kvs : List (List Key × V)} (h : CostAt H d n F kvs) {s : Nat} {u : Bool} {p : Nat × Nat} {q : Addr} (hq : H q = some (.tup (pairV p))) (g : G d = some (.dT (putK kvs (keyS s u) (.ref q)))) (off : ∀ b, b ≠ d → G b = H b) :
    CostAt G d n (Mk.put F s u (some p)) (putK kvs (keyS s u) (.ref q)) := by
  have keep : ∀ q xs, H q = some (.tup xs) → G q = some (.tup xs) := fun q xs e => by
    rw [off q (ne_of e h.at_ (fun z => nomatch z))]
    exact e
  refine ⟨g, fun x w l => ?_⟩
  rw [valV_put]
  by_cases c : x = s ∧ w = u
  · obtain ⟨rfl, rfl⟩ := c
    rw [if_pos rfl, Mk.put_same]
    exact ⟨q, rfl, keep _ _ hq⟩
  · rw [if_neg (fun e => c (keyS_inj e)), Mk.put_ne c]
    exact (h.ent x w l).mono keep
theorem dputT {H : Hp} {a b : Addr} {kvs : List (List Key × V)} {k : List Key} {v : V} {Q : Hp → Prop} (e : H a = some (.dT kvs)) (eb : H b = some (.tup (k.map kV))) (hl : kvs.length < sizeLine) (h : ∀ G : Hp, G a = some (.dT (putK kvs k v)) → (∀ b, b ≠ a → G b = H b) → Q G) : rSetD (.ref a) (.ref b) v H Q :=
  ⟨a, _, rfl, DPut.t e eb hl, h _ upd_same fun b hb => upd_ne hb⟩
theorem dgetT {H : Hp} {a b : Addr} {kvs : List (List Key × V)} {k : List Key} {P : Option V → Prop} (e : H a = some (.dT kvs)) (eb : H b = some (.tup (k.map kV))) (q : P (valV kvs k)) : ∃ o, DGet H a (.ref b) o ∧ P o := ⟨_, DGet.t e eb, q⟩
theorem isDT {H : Hp} {a : Addr} {kvs : List (List Key × V)} {P : Addr → Prop} (e : H a = some (.dT kvs)) (q : P a) : ∃ a', V.ref a = .ref a' ∧ IsD H a' ∧ P a' := ⟨a, rfl, .inr ⟨kvs, .inl e⟩, q⟩
theorem lt_pairs {c q : Nat × Nat} : HT.lexLt [(c.1 : Int), (c.2 : Int)] [(q.1 : Int), (q.2 : Int)] = true ↔ ¬ Mk.lx q c := by
  unfold Mk.lx
  rw [HT.lexLt_cons]
  split
  · rename_i e
    rw [HT.lexLt_cons]
    split
    · rename_i e2
      rw [HT.lexLt_nil_nil]
      simp
      omega
    · rw [decide_eq_true_iff]
      omega
  · rw [decide_eq_true_iff]
    omega
theorem gt_dec {s o : Nat} : decide (((s : Nat) : Int) < ((o : Nat) : Int)) = decide (s < o) := decide_eq_decide.mpr (by omega)
def sp_step_cost (K : PySem.W.Frag) : Sp := fun vs H Q _ => ∃ (d : Addr) (n : Nat) (F : Mk.Tab) (kvs : List (List Key × V)) (s o : Nat) (u : Bool), vs = [.ref d, .int (s : Nat), .int (b2i u), .int (o : Nat)] ∧ CostAt H d n F kvs ∧ o ≤ n ∧
  ∀ (v : V) H', Same H H' → Bst H' v ((F o (decide (s < o))).map (Mk.add u (decide (s < o)))) → Q v H'
def sp_calm_costs (K : PySem.W.Frag) : Sp := fun vs H Q _ => ∃ (p : Addr) (n : Nat) (A : Nat → Nat → Prop), vs = [.ref p] ∧ Links K H p n A ∧ n ≤ 1000 ∧ (∀ i j, A i j → j ≤ n) ∧
  ∀ (d : Addr) (F : Mk.Tab) (kvs : List (List Key × V)) H', Same H H' → H d = none → CostAt H' d n F kvs → Mk.Opt A n F → Q (.ref d) H'
theorem ok_step_cost (T : Txt w K mg) : FnOk P w K mg base CX0 1 T.f_step_cost T.fd_step_cost ["costs", "spot", "up", "other"] (sp_step_cost K) := by
  refine T.F_step_cost.ok sc_step_cost (fun vs H Q E h => ?_) (fun cdv A outer s H vs Q E hr h => ?_)
  · obtain ⟨d, n, F, kvs, s, o, u, rfl, _⟩ := h
    rfl
  · obtain ⟨d, n, F, kvs, s, o, u, rfl, hC, on, k⟩ := h
    refine ⟨_, (pss_cons (ps_set (i := 4) sc_step_cost.nd rfl (.inl rfl) (pe_callTy (T := "int") (r := _) Rd.c_int (by rfl) T.n_int (by decide +kernel) (pa_cons (pe_cmpR op_gt (pv 3) (pv 1) (nomark _)) pa_nil)))
  (pss_cons (ps_set (i := 5) sc_step_cost.nd rfl (.inl rfl) (pe_dget1 (hu_of hr) (pv 0) (pe_tup (pa_cons (pv 3) (pa_cons (pv 4) pa_nil))) ⟨rfl, rfl, rfl, rfl⟩))
  (pss_cons (ps_if (pt_cmpR op_isN (pv 5) pe_non (nomark _))
  (pss_one (ps_ret pe_non))
  pss_nil)
  (pss_one (ps_ret (pe_tup (pa_cons (pe_op op_add (pe_ix (r := rIxT K) ix_tup (pv 5) pe_int (fun _ _ => rfl)) (pe_callTy (T := "int") (r := _) Rd.c_int (by rfl) T.n_int (by decide +kernel) (pa_cons (pe_cmpR op_ne (pv 4) (pv 2) (nomark _)) pa_nil))) (pa_cons (pe_op op_add (pe_ix (r := rIxT K) ix_tup (pv 5) pe_int (fun _ _ => rfl)) pe_int) pa_nil)))))))), ?_⟩
    walk_at "rd"
    refine Rd.intB ?_
    rw [gt_dec, show (if decide (s < o) = true then (1 : Int) else 0) = b2i (decide (s < o)) from rfl]
    walk_at "rd"
    refine ⟨.inr ⟨_, .inl hC.at_⟩, ?_⟩
    walk_at "rd"
    refine ⟨Nat.le_of_ble_eq_true rfl, Rd.new fun t G nt gt s1 => ?_⟩
    refine dgetT (k := keyS o (decide (s < o))) (s1 _ _ hC.at_) gt ?_
    walk_at "rd"
    have b1 := ((hC.same s1).ent o (decide (s < o)) on).bst
    generalize (valV kvs (keyS o (decide (s < o)))).getD .non = w at b1
    refine ⟨rfl, ?_⟩
    walk_at "rd"
    cases e : F o (decide (s < o)) with
    | none =>
      rw [e] at b1
      cases (show w = .non from b1)
      walk_at "go"
      refine k _ _ s1 ?_
      rw [e]
      rfl
    | some p =>
      rw [e] at b1
      obtain ⟨q, rfl, gq⟩ := b1
      walk_at "go"
      refine Rd.ixT (v := .int (p.1 : Nat)) (.of gq) (atI_nat (j := 0) rfl) ?_
      walk_at "rd"
      refine Rd.intB ?_
      walk_at "rd"
      refine Rd.ixT (v := .int (p.2 : Nat)) (.of gq) (atI_nat (j := 1) rfl) ?_
      walk_at "rd"
      refine ⟨Nat.le_of_ble_eq_true rfl, Rd.new fun t2 G2 nt2 gt2 s2 => ?_⟩
      refine k _ _ (s1.trans s2) ?_
      rw [e]
      refine ⟨t2, rfl, ?_⟩
      rw [gt2]
      have h1 : ((p.1 : Nat) : Int) + (if (!decide (b2i (decide (s < o)) = b2i u)) = true then 1 else 0) = ((Mk.add u (decide (s < o)) p).1 : Nat) := by
        unfold Mk.add Mk.tn b2i
        cases decide (s < o) <;> cases u <;> simp
      rw [h1]
      rfl
/-- what holds of the table in a round: F0 at its begin, r rounds are behind; the pairs below (i, j) are done -/
structure Rnd (A : Nat → Nat → Prop) (n r : Nat) (F0 F : Mk.Tab) (ch : Bool) (done : Nat → Bool → Prop) : Prop where
  so : Mk.Sound A n F
  ze : ∀ u, F n u = some (0, 0)
  fall : Mk.Fall F0 F
  cov : ∀ s u, s < n → done s u → Mk.Cov A n F (r + 1) s u
  same : ch = false → F = F0 ∧ ∀ s u, s < n → done s u → Mk.Stab A F0 s u
  few : ch = true → r < 2 * n + 2
/-- the best so far for (i, u), behind some neighbours xs -/
structure Bnd (A : Nat → Nat → Prop) (n r : Nat) (F : Mk.Tab) (i : Nat) (u : Bool) (b : Option (Nat × Nat)) (ch ch0 : Bool) (xs : List Int) : Prop where
  so : ∀ p, b = some p → Mk.Cw A n i u p.1 p.2
  be : ∀ p, F i u = some p → ∃ q, b = some q ∧ Mk.lx q p
  nb : ∀ o : Nat, (o : Int) ∈ xs → ∀ q, F o (decide (i < o)) = some q → ∃ p, b = some p ∧ Mk.lx p (Mk.add u (decide (i < o)) q)
  same : ch = false → ch0 = false ∧ b = F i u
  few : ch = true → r < 2 * n + 2
theorem Bnd.start {A : Nat → Nat → Prop} {n r : Nat} {F0 F : Mk.Tab} {ch : Bool} {done : Nat → Bool → Prop} (h : Rnd A n r F0 F ch done) {i : Nat} (il : i ≤ n) {u : Bool} : Bnd A n r F i u (F i u) ch ch [] :=
  ⟨fun p e => h.so i u p il e, fun p e => ⟨p, e, Mk.lx.refl p⟩, fun o m => by simp at m, fun e => ⟨e, rfl⟩, h.few⟩
/-- a neighbour that gives nothing better -/
theorem Bnd.skip {A : Nat → Nat → Prop} {n r : Nat} {F : Mk.Tab} {i : Nat} {u : Bool} {b : Option (Nat × Nat)} {ch ch0 : Bool} {xs : List Int} {o : Nat} (h : Bnd A n r F i u b ch ch0 xs)
    (no : ∀ q, F o (decide (i < o)) = some q → ∃ p, b = some p ∧ Mk.lx p (Mk.add u (decide (i < o)) q)) : Bnd A n r F i u b ch ch0 (xs ++ [(o : Int)]) :=
  ⟨h.so, h.be, fun o' m => by
    rcases List.mem_append.mp m with m | m
    · exact h.nb o' m
    · have : o' = o := by have := List.mem_singleton.mp m; omega
      subst this
      exact no, h.same, h.few⟩
/-- a neighbour that is better -/
theorem Bnd.take {A : Nat → Nat → Prop} {n r : Nat} {F0 F : Mk.Tab} {i : Nat} {u : Bool} {b : Option (Nat × Nat)} {ch ch0 chR : Bool} {xs : List Int} {o : Nat} {q : Nat × Nat} {done : Nat → Bool → Prop} (hA : ∀ i j, A i j → j ≤ n) (h : Bnd A n r F i u b ch ch0 xs) (R : Rnd A n r F0 F chR done)
    (s0 : Mk.Sound A n F0) (c0 : ∀ s u, s ≤ n → Mk.Cov A n F0 r s u) (il : i < n) (a : A i o) (eq : F o (decide (i < o)) = some q) (better : ∀ p, b = some p → ¬ Mk.lx p (Mk.add u (decide (i < o)) q)) :
    Bnd A n r F i u (some (Mk.add u (decide (i < o)) q)) true ch0 (xs ++ [(o : Int)]) := by
  have cw : Mk.Cw A n i u (Mk.add u (decide (i < o)) q).1 (Mk.add u (decide (i < o)) q).2 := .step (by omega) a (R.so o _ q (hA _ _ a) eq)
  have le : ∀ p, b = some p → Mk.lx (Mk.add u (decide (i < o)) q) p := fun p e => (Mk.lx.total _ _).resolve_right (better p e)
  refine ⟨fun p e => by cases e; exact cw, fun p e => ?_, fun o' m q' e => ?_, fun e => (by cases e), fun _ => ?_⟩
  · obtain ⟨q1, e1, l1⟩ := h.be p e
    exact ⟨_, rfl, (le q1 e1).trans l1⟩
  · rcases List.mem_append.mp m with m | m
    · obtain ⟨p, ep, lp⟩ := h.nb o' m q' e
      exact ⟨_, rfl, (le p ep).trans lp⟩
    · have : o' = o := by have := List.mem_singleton.mp m; omega
      subst this
      rw [eq] at e
      cases e
      exact ⟨_, rfl, Mk.lx.refl _⟩
  · rcases Nat.lt_or_ge r (2 * n + 2) with c | c
    · exact c
    · have op := Mk.opt_cov hA s0 c c0
      obtain ⟨p0, hp0⟩ := Mk.least_ex cw
      have e0 := (op i u p0 (by omega)).mpr hp0
      obtain ⟨p1, e1, l1⟩ := R.fall _ _ _ e0
      obtain ⟨p2, e2, l2⟩ := h.be p1 e1
      exact absurd ((l2.trans l1).trans (hp0.2 _ _ cw)) (better p2 e2)
/-- the pair is done -/
theorem Rnd.put {A : Nat → Nat → Prop} {n r : Nat} {F0 F : Mk.Tab} {ch ch' : Bool} {done : Nat → Bool → Prop} {i : Nat} {u : Bool} {b : Option (Nat × Nat)} {xs : List Int} (hA : ∀ i j, A i j → j ≤ n) (R : Rnd A n r F0 F ch done) (B : Bnd A n r F i u b ch' ch xs) (c0 : ∀ s u, s ≤ n → Mk.Cov A n F0 r s u)
    (il : i < n) (all : ∀ o, A i o → (o : Int) ∈ xs) : Rnd A n r F0 (Mk.put F i u b) ch' (fun s w => done s w ∨ (s = i ∧ w = u)) := by
  have fl : Mk.Fall F (Mk.put F i u b) := Mk.put_fall B.be
  refine ⟨fun s w p sn e => ?_, fun w => ?_, R.fall.trans fl, fun s w sn d => ?_, fun e => ?_, B.few⟩
  · by_cases c : s = i ∧ w = u
    · obtain ⟨rfl, rfl⟩ := c
      rw [Mk.put_same] at e
      exact B.so p e
    · rw [Mk.put_ne c] at e
      exact R.so s w p sn e
  · rw [Mk.put_ne (fun c => by omega)]
    exact R.ze w
  · rcases d with d | ⟨rfl, rfl⟩
    · exact (R.cov s w sn d).fall fl
    · intro t k cw l
      rw [Mk.put_same]
      exact Mk.cov_next hA sn c0 R.fall (fun o q a e => B.nb o (all o a) q e) t k cw l
  · obtain ⟨e1, e2⟩ := B.same e
    obtain ⟨eF, st⟩ := R.same e1
    refine ⟨by rw [e2, Mk.put_self, eF], fun s w sn d => ?_⟩
    rcases d with d | ⟨rfl, rfl⟩
    · exact st s w sn d
    · intro o q a e
      rw [← eF] at e ⊢
      rw [← e2]
      exact B.nb o (all o a) q e
theorem Rnd.iff {A : Nat → Nat → Prop} {n r : Nat} {F0 F : Mk.Tab} {ch : Bool} {d d' : Nat → Bool → Prop} (h : Rnd A n r F0 F ch d) (e : ∀ s u, s < n → d' s u → d s u) : Rnd A n r F0 F ch d' :=
  ⟨h.so, h.ze, h.fall, fun s u sn x => h.cov s u sn (e s u sn x), fun c => ⟨(h.same c).1, fun s u sn x => (h.same c).2 s u sn (e s u sn x)⟩, h.few⟩
/-- between two rounds -/
structure Btw (A : Nat → Nat → Prop) (n r : Nat) (F : Mk.Tab) (ch : Bool) : Prop where
  so : Mk.Sound A n F
  ze : ∀ u, F n u = some (0, 0)
  cov : ∀ s u, s ≤ n → Mk.Cov A n F r s u
  opt : ch = false → Mk.Opt A n F
theorem Btw.start {A : Nat → Nat → Prop} {n r : Nat} {F : Mk.Tab} {ch : Bool} (h : Btw A n r F ch) : Rnd A n r F F false (fun _ _ => False) :=
  ⟨h.so, h.ze, Mk.Fall.refl F, fun _ _ _ d => d.elim, fun _ => ⟨rfl, fun _ _ _ d => d.elim⟩, fun e => (by cases e)⟩
theorem Rnd.done {A : Nat → Nat → Prop} {n r : Nat} {F0 F : Mk.Tab} {ch : Bool} {d : Nat → Bool → Prop} (hA : ∀ i j, A i j → j ≤ n) (h : Rnd A n r F0 F ch d) (all : ∀ s u, s < n → d s u) : Btw A n (r + 1) F ch :=
  ⟨h.so, h.ze, fun s u sn => by
    rcases Nat.lt_or_ge s n with c | c
    · exact h.cov s u c (all s u c)
    · have : s = n := by omega
      subst this
      exact fun t k _ _ => ⟨_, h.ze u, Mk.lx_zero _⟩, fun e => by
    obtain ⟨eF, st⟩ := h.same e
    have so := h.so
    have ze := h.ze
    rw [eF] at so ze ⊢
    exact Mk.opt_stab hA so ze fun s u sn => st s u sn (all s u sn)⟩
theorem CostAt.none {H : Hp} {d : Addr} {n : Nat} {F : Mk.Tab} {kvs : List (List Key × V)} {i : Nat} {u : Bool} (h : CostAt H d n F kvs) (e : F i u = none) : CostAt H d n (Mk.put F i u none) kvs := by
  rw [← e, Mk.put_self]
  exact h
theorem bools (u : Bool) : b2i u = 0 ∨ b2i u = 1 := by cases u <;> simp [b2i]
theorem ok_calm_costs (T : Txt w K mg) : FnOk P w K mg base CX0 2 T.f_calm_costs T.fd_calm_costs ["links"] (sp_calm_costs K) := by
  refine T.F_calm_costs.ok sc_calm_costs (fun vs H Q E h => ?_) (fun cdv A outer s H vs Q E hr h => ?_)
  · obtain ⟨p, n, A, rfl, _⟩ := h
    rfl
  · obtain ⟨p, n, A, rfl, hL, hn, hA, k⟩ := h
    refine ⟨_, (pss_cons (ps_set (i := 1) sc_calm_costs.nd rfl (.inl rfl) (pe_op op_sub (pe_callB (id := "len") (r := Rd.nLen K) Rd.c_len (by rfl) T.n_len (by decide +kernel) (pa_cons (pv 0) pa_nil)) pe_int))
  (pss_cons (ps_set (i := 2) sc_calm_costs.nd rfl (.inl rfl) (Ry.pe_dispT (hu_of hr) (pps_cons (pe_tup (pa_cons (pv 1) (pa_cons pe_int pa_nil))) (pe_tup (pa_cons pe_int (pa_cons pe_int pa_nil))) (pps_cons (pe_tup (pa_cons (pv 1) (pa_cons pe_int pa_nil))) (pe_tup (pa_cons pe_int (pa_cons pe_int pa_nil))) pps_nil)) rfl rfl (by simp) (by decide)))
  (pss_cons (ps_set (i := 3) sc_calm_costs.nd rfl (.inl rfl) pe_bl)
  (pss_cons (ps_while PassesOwn.never (pt_val (pv 3))
  (pss_cons (ps_set (i := 3) sc_calm_costs.nd rfl (.inl rfl) pe_bl)
  (pss_one (ps_for PassesOwn.never rfl (pi_range1 rfl T.n_range (pa_cons (pv 1) pa_nil)) (pg_name (i := 4) sc_calm_costs.nd rfl (.inl rfl))
  (pss_one (ps_for PassesOwn.never rfl (pi_tup (pe_tup (pa_cons pe_int (pa_cons pe_int pa_nil)))) (pg_name (i := 5) sc_calm_costs.nd rfl (.inl rfl))
  (pss_cons (ps_set (i := 6) sc_calm_costs.nd rfl (.inl rfl) (pe_dget1 (hu_of hr) (pv 2) (pe_tup (pa_cons (pv 4) (pa_cons (pv 5) pa_nil))) ⟨rfl, rfl, rfl, rfl⟩))
  (pss_cons (ps_for PassesOwn.never rfl (pi_list (pe_ix (r := rIxL K) ix_list (pv 0) (pv 4) (fun _ _ => rfl))) (pg_name (i := 7) sc_calm_costs.nd rfl (.inl rfl))
  (pss_cons (ps_set (i := 8) sc_calm_costs.nd rfl (.inl rfl) (pe_call (ok_step_cost T) (hr.mono (by decide)) rfl T.g_step_cost T.F_step_cost.kp T.b_step_cost .nil pass0 (pa_cons (pv 2) (pa_cons (pv 4) (pa_cons (pv 5) (pa_cons (pv 7) pa_nil))))))
  (pss_one (ps_if (PW.pt (pw_and (pt_cmpR op_notN (pv 8) pe_non (nomark _)) (pw_and1 (PW.pt (pw_or (pt_cmpR op_isN (pv 6) pe_non (nomark _)) (pw_or1 (pt_cmpR (op_ltT hr.units0) (pv 8) (pv 6) (nomark _))))))))
  (pss_cons (ps_set (i := 6) sc_calm_costs.nd rfl (.inl rfl) (pv 8))
  (pss_one (ps_set (i := 3) sc_calm_costs.nd rfl (.inl rfl) pe_bl)))
  pss_nil))))
  (pss_one (ps_if (pt_cmpR op_notN (pv 6) pe_non (nomark _))
  (pss_one (ps_asg (pv 6) (pg_sub (pv 2) (pe_tup (pa_cons (pv 4) (pa_cons (pv 5) pa_nil))) (set_dict (hu_of hr)))))
  pss_nil))))))))))
  (pss_one (ps_ret (pv 2))))))), ?_⟩
    obtain ⟨rs, hp, rl, hr⟩ := hL
    walk_at "rd"
    refine Rd.len (.inl hp) ?_
    rw [List.length_map, rl]
    walk_at "rd"
    rw [show ((n + 1 : Nat) : Int) - 1 = (n : Nat) by omega]
    refine Ry.dispT fun d G nd gd s0 => Rx.pair ?_
    walk_at "rd"
    refine ⟨Nat.le_of_ble_eq_true rfl, Rd.new fun t1 G1 nt1 gt1 s1 => ?_⟩
    walk_at "rd"
    refine ⟨Nat.le_of_ble_eq_true rfl, Rd.new fun t2 G2 nt2 gt2 s2 => Rx.pair ?_⟩
    walk_at "rd"
    refine ⟨Nat.le_of_ble_eq_true rfl, Rd.new fun t3 G3 nt3 gt3 s3 => ?_⟩
    walk_at "rd"
    refine ⟨Nat.le_of_ble_eq_true rfl, Rd.new fun t4 G4 nt4 gt4 s4 => ?_⟩
    have t1' := ((s2.trans s3).trans s4) _ _ gt1
    have t2' := (s3.trans s4) _ _ gt2
    have t3' := s4 _ _ gt3
    have d4 := (((s1.trans s2).trans s3).trans s4) _ _ gd
    refine Rx.pair0 ⟨d4, [(keyS n false, .ref t2), (keyS n true, .ref t4)], .cons ⟨t1, rfl, t1', rfl⟩ (.cons ⟨t3, rfl, t3', rfl⟩ .nil), Nat.le_of_ble_eq_true rfl, fun G5 g5 off5 => ?_⟩
    have s45 : Same H G5 := fun b o e => by
      rw [off5 b (ne_of_none e nd)]
      exact (((s1.trans s2).trans s3).trans s4) _ _ (s0 _ _ e)
    have c0 : CostAt G5 d n (fun s _ => if s = n then some (0, 0) else none) (Ry.putAll [] [(keyS n false, .ref t2), (keyS n true, .ref t4)]) := by
      refine ⟨g5, fun s u sn => ?_⟩
      have nk : keyS n false ≠ keyS n true := fun e => by have := (keyS_inj e).2; cases this
      have v : valV (Ry.putAll [] [(keyS n false, V.ref t2), (keyS n true, .ref t4)]) (keyS s u) = if keyS s u = keyS n true then some (.ref t4) else if keyS s u = keyS n false then some (.ref t2) else none := by
        show valV (putK (putK [] (keyS n false) (.ref t2)) (keyS n true) (.ref t4)) (keyS s u) = _
        rw [valV_put, valV_put]
        rfl
      rw [v]
      by_cases c : s = n
      · subst c
        rw [if_pos rfl]
        have keep : ∀ q xs, G4 q = some (.tup xs) → G5 q = some (.tup xs) := fun q xs e => by
          rw [off5 q (ne_of e d4 (fun z => nomatch z))]
          exact e
        cases u with
        | true =>
          rw [if_pos rfl]
          exact ⟨t4, rfl, keep _ _ gt4⟩
        | false =>
          rw [if_neg nk, if_pos rfl]
          exact ⟨t2, rfl, keep _ _ t2'⟩
      · rw [if_neg (fun e => c (keyS_inj e).1), if_neg (fun e => c (keyS_inj e).1), if_neg c]
        rfl
    have l0 : (Ry.putAll [] [(keyS n false, V.ref t2), (keyS n true, .ref t4)]).length ≤ 2 := Ry.putAll_len _ []
    clear t1' t2' t3' d4 s0 s1 s2 s3 s4 gd gt1 gt2 gt3 gt4 nt1 nt2 nt3 nt4 off5 g5
    generalize Ry.putAll [] [(keyS n false, V.ref t2), (keyS n true, .ref t4)] = kvs0 at c0 l0
    have b0 : Btw A n 0 (fun s _ => if s = n then some (0, 0) else none) true := by
      refine ⟨fun s u p sn e => ?_, fun u => if_pos rfl, fun s u sn t k' cw l => ?_, fun e => (by cases e)⟩
      · split at e
        · rename_i c
          subst c
          cases e
          exact .stop u
        · cases e
      · cases cw with
        | stop => exact ⟨_, if_pos rfl, Mk.lx.refl _⟩
        | step => omega
    walk_at "rd"
    refine Rd.whl (fun m σ H' => ∃ (r : Nat) (F : Mk.Tab) (kvs : List (List Key × V)) (ch : Bool) (o4 o5 o6 o7 o8 : Option V), σ = [some (.ref p), some (.int (n : Nat)), some (.ref d), some (.bl ch), o4, o5, o6, o7, o8] ∧ Same H H' ∧ CostAt H' d n F kvs ∧ kvs.length ≤ 2 + 2 * n * r ∧ Btw A n r F ch ∧ (ch = true → r ≤ 2 * n + 2) ∧ m = if ch = true then 2 * n + 4 - r else 0)
      ⟨2 * n + 4, 0, _, kvs0, true, none, none, none, none, none, rfl, s45, c0, by omega, b0, fun _ => by omega, rfl⟩ ?_
    rintro m _ H1 ⟨r, F0, kvs1, ch, o4, o5, o6, o7, o8, rfl, sm, ca, kl, bt, r3, rfl⟩
    walk_at "rd"
    cases ch with
    | false =>
      walk_at "rd"
      exact k d F0 kvs1 H1 sm nd ca (bt.opt rfl)
    | true =>
      walk_at "rd"
      refine Rd.whN ?_
      walk_at "rd"
      refine Rd.forS ?_
      walk_at "rd"
      refine ⟨by omega, by omega, ?_⟩
      rw [show ((n : Nat) : Int).toNat = n from rfl]
      have r3' := r3 rfl
      have big : 2 * n * r ≤ 2000 * 2003 := Nat.mul_le_mul (by omega) (by omega)
      refine for_range (lo := 0) (n := n) (fun i σ H' => ∃ (F : Mk.Tab) (kvs : List (List Key × V)) (ch : Bool) (o4 o5 o6 o7 o8 : Option V), σ = [some (.ref p), some (.int (n : Nat)), some (.ref d), some (.bl ch), o4, o5, o6, o7, o8] ∧ Same H H' ∧ CostAt H' d n F kvs ∧ kvs.length ≤ 2 + 2 * n * r + 2 * i ∧ Rnd A n r F0 F ch (fun s _ => s < i))
        ⟨F0, kvs1, false, _, _, _, _, _, rfl, sm, ca, by omega, bt.start.iff fun s u _ h => by omega⟩ ?_ ?_
      · rintro i _ H2 hi ⟨F, kvs, ch, o4, o5, o6, o7, o8, rfl, s2, ca2, kl2, R2⟩
        walk_at "rd"
        rw [Int.zero_add]
        refine Rd.forS ?_
        walk_at "rd"
        refine ⟨Nat.le_of_ble_eq_true rfl, Rd.new fun tu G6 nu gu s6 => ?_⟩
        walk_at "rd"
        refine ⟨⟨_, .of gu⟩, for_tup (K := K) (a := tu) (xs := [.int (b2i false), .int (b2i true)]) (fun j σ H' => ∃ (F : Mk.Tab) (kvs : List (List Key × V)) (ch : Bool) (o5 o6 o7 o8 : Option V), σ = [some (.ref p), some (.int (n : Nat)), some (.ref d), some (.bl ch), some (.int (i : Nat)), o5, o6, o7, o8] ∧ Same H H' ∧ H' tu = some (.tup [.int (b2i false), .int (b2i true)]) ∧ CostAt H' d n F kvs ∧ kvs.length ≤ 2 + 2 * n * r + 2 * i + j ∧ Rnd A n r F0 F ch (fun s u => s < i ∨ (s = i ∧ (if u = true then 1 else 0) < j)))
          ⟨F, kvs, ch, _, _, _, _, rfl, s2.trans s6, gu, ca2.same s6, by omega, R2.iff fun s u _ h => by rcases h with h | ⟨_, h⟩ <;> omega⟩ (fun j σ H' _ ⟨_, _, _, _, _, _, _, _, _, g, _⟩ => .of g) ?_ ?_⟩
        · rintro j x0 _ H3 hx0 ⟨F, kvs, ch, o5, o6, o7, o8, rfl, s3, gu3, ca3, kl3, R3⟩
          obtain ⟨u, rfl, ju, j2⟩ : ∃ u : Bool, x0 = .int (b2i u) ∧ j = (if u = true then 1 else 0) ∧ j < 2 := by
            match j, hx0 with
            | 0, h => cases h; exact ⟨false, rfl, rfl, by decide⟩
            | 1, h => cases h; exact ⟨true, rfl, rfl, by decide⟩
            | j + 2, h => simp at h
          have tud : tu ≠ d := ne_of gu3 ca3.at_ (fun z => nomatch z)
          walk_at "rd"
          refine ⟨.inr ⟨_, .inl ca3.at_⟩, ?_⟩
          walk_at "rd"
          refine ⟨Nat.le_of_ble_eq_true rfl, Rd.new fun tk G7 nk gk s7 => ?_⟩
          refine dgetT (k := keyS i u) (s7 _ _ ca3.at_) gk ?_
          walk_at "rd"
          have ca7 := ca3.same s7
          have b7 := (ca7.ent i u (by omega)).bst
          have s37 := s3.trans s7
          have gu7 := s7 _ _ gu3
          generalize (valV kvs (keyS i u)).getD .non = w at b7
          clear s7 s3 ca3 gk nk gu3
          have hrow : i < rs.length := by omega
          obtain ⟨ms, m1, mp, m2⟩ := hr i _ (List.getElem?_eq_getElem hrow)
          refine Rd.forS ?_
          walk_at "rd"
          refine Rd.ixL (s37.seq hp) (atI_nat (Rd.map_ref hrow)) ?_
          walk_at "rd"
          refine ⟨⟨_, s37.seq m1⟩, for_list (K := K) (a := rs[i]) (xs := ms.map V.int) (fun t σ H' => ∃ (w : V) (b : Option (Nat × Nat)) (ch' : Bool) (o7 o8 : Option V), σ = [some (.ref p), some (.int (n : Nat)), some (.ref d), some (.bl ch'), some (.int (i : Nat)), some (.int (b2i u)), some w, o7, o8] ∧ Same G7 H' ∧ Bst H' w b ∧ Bnd A n r F i u b ch' ch (ms.take t))
            ⟨w, F i u, ch, _, _, rfl, Same.refl _, b7, Bnd.start R3 (by omega)⟩ (fun t σ H' _ ⟨_, _, _, _, _, _, s, _⟩ => (s37.trans s).seq m1) ?_ ?_⟩
          · rintro t y0 _ H8 hy0 ⟨w, b, ch', o7, o8, rfl, s8, bw, B⟩
            obtain ⟨y, hy, rfl⟩ := Rd.map_get hy0
            obtain ⟨o, rfl, ao⟩ := (m2 y).mp (List.mem_of_getElem? hy)
            walk_at "rd"
            refine ⟨d, n, F, kvs, i, o, u, rfl, ca7.same s8, hA _ _ ao, fun cv H9 s9 bc => ?_⟩
            have bw9 := bw.same s9
            have s89 := s8.trans s9
            walk_at "rd"
            refine ⟨rfl, ?_⟩
            walk_at "rd"
            cases e : F o (decide (i < o)) with
            | none =>
              rw [e] at bc
              cases (show cv = .non from bc)
              walk_at "go"
              refine ⟨w, b, ch', _, _, rfl, s89, bw9, ?_⟩
              rw [Rd.take_snoc hy]
              exact B.skip fun q eq => by rw [e] at eq; cases eq
            | some q =>
              rw [e] at bc
              obtain ⟨qc, rfl, gc⟩ : ∃ qc, cv = .ref qc ∧ H9 qc = some (.tup (pairV (Mk.add u (decide (i < o)) q))) := bc
              walk_at "go"
              cases b with
              | none =>
                cases (show w = .non from bw9)
                walk_at "go"
                refine ⟨_, some (Mk.add u (decide (i < o)) q), true, _, _, rfl, s89, ⟨qc, rfl, gc⟩, ?_⟩
                rw [Rd.take_snoc hy]
                exact B.take hA R3 bt.so bt.cov hi ao e (fun p h => by cases h)
              | some bp =>
                obtain ⟨qw, rfl, gw⟩ := bw9
                walk_at "go"
                refine ⟨qc, qw, [((Mk.add u (decide (i < o)) q).1 : Int), ((Mk.add u (decide (i < o)) q).2 : Int)], [(bp.1 : Int), (bp.2 : Int)], rfl, rfl, .of gc, .of gw, ?_⟩
                walk_at "rd"
                by_cases lt : HT.lexLt [((Mk.add u (decide (i < o)) q).1 : Int), ((Mk.add u (decide (i < o)) q).2 : Int)] [(bp.1 : Int), (bp.2 : Int)] = true
                · rw [lt]
                  walk_at "go"
                  refine ⟨_, some (Mk.add u (decide (i < o)) q), true, _, _, rfl, s89, ⟨qc, rfl, gc⟩, ?_⟩
                  rw [Rd.take_snoc hy]
                  exact B.take hA R3 bt.so bt.cov hi ao e (fun p h => by cases h; exact lt_pairs.mp lt)
                · have nl : Mk.lx bp (Mk.add u (decide (i < o)) q) := by
                    false_or_by_contra
                    rename_i c
                    exact lt (lt_pairs.mpr c)
                  rw [Bool.not_eq_true] at lt
                  rw [lt]
                  walk_at "go"
                  refine ⟨_, some bp, ch', _, _, rfl, s89, ⟨qw, rfl, gw⟩, ?_⟩
                  rw [Rd.take_snoc hy]
                  exact B.skip fun q' eq => by
                    rw [e] at eq
                    cases eq
                    exact ⟨bp, rfl, nl⟩
          · rintro _ H8 ⟨w, b, ch', o7, o8, rfl, s8, bw, B⟩
            rw [List.length_map, List.take_length] at B
            have ca8 := ca7.same s8
            have R4 := R3.put hA B bt.cov hi fun o a => (m2 _).mpr ⟨o, rfl, a⟩
            have s38 := s37.trans s8
            have dn : ∀ s w, s < n → (s < i ∨ (s = i ∧ (if w = true then 1 else 0) < j + 1)) → (s < i ∨ (s = i ∧ (if w = true then 1 else 0) < j)) ∨ (s = i ∧ w = u) := fun s w _ h => by
              rcases h with h | ⟨h, h2⟩
              · exact .inl (.inl h)
              · rw [ju] at h2 ⊢
                cases w <;> cases u <;> simp at h2 ⊢ <;> omega
            walk_at "rd"
            refine ⟨rfl, ?_⟩
            walk_at "rd"
            cases b with
            | none =>
              cases (show w = .non from bw)
              walk_at "go"
              have en : F i u = none := by
                cases e : F i u with
                | none => rfl
                | some q =>
                  obtain ⟨_, z, _⟩ := B.be q e
                  cases z
              exact ⟨_, kvs, ch', _, _, _, _, rfl, s38, s8 _ _ gu7, ca8.none en, by omega, R4.iff dn⟩
            | some bp =>
              obtain ⟨qw, rfl, gw⟩ := bw
              walk_at "go"
              refine ⟨Nat.le_of_ble_eq_true rfl, Rd.new fun tq G9 nq gq s9 => ?_⟩
              have ca9 := ca8.same s9
              have pl := length_putK kvs (keyS i u) (.ref qw)
              refine dputT (k := keyS i u) ca9.at_ gq (by rw [sizeLine_eq]; omega) fun G10 g10 off10 => ?_
              walk_at "rd"
              refine ⟨_, _, ch', _, _, _, _, rfl, fun b o e => ?_, ?_, ca9.put (s9 _ _ gw) g10 off10, by omega, R4.iff dn⟩
              · rw [off10 b (ne_of_none e nd)]
                exact s9 _ _ (s38 _ _ e)
              · rw [off10 tu tud]
                exact s9 _ _ (s8 _ _ gu7)
        · rintro _ H3 ⟨F, kvs, ch, o5, o6, o7, o8, rfl, s3, _, ca3, kl3, R3⟩
          walk_at "rd"
          refine ⟨F, kvs, ch, _, _, _, _, _, rfl, s3, ca3, by simp at kl3; omega, R3.iff fun s u _ h => ?_⟩
          rcases Nat.lt_succ_iff_lt_or_eq.mp h with h | h
          · exact .inl h
          · exact .inr ⟨h, by cases u <;> simp⟩
      · rintro _ H2 ⟨F, kvs, ch, o4, o5, o6, o7, o8, rfl, s2, ca2, kl2, R2⟩
        walk_at "rd"
        have mu : 2 * n * (r + 1) = 2 * n * r + 2 * n := Nat.mul_succ _ _
        cases ch with
        | false =>
          exact ⟨0, by rw [if_pos rfl]; omega, r + 1, F, kvs, false, _, _, _, _, _, rfl, s2, ca2, by omega, R2.done hA fun s u h => h, fun e => (by cases e), rfl⟩
        | true =>
          have := R2.few rfl
          exact ⟨2 * n + 4 - (r + 1), by rw [if_pos rfl]; omega, r + 1, F, kvs, true, _, _, _, _, _, rfl, s2, ca2, by omega, R2.done hA fun s u h => h, fun _ => by omega, rfl⟩

end
end W

namespace W
open PySem PySem.Spec PyProof.Rows L2
section
variable {P : Program} {w : World} {K : PySem.W.Frag} {mg : Str → Option Value} {base : Heap}
/-! ### calmest -/
theorem shapedT_ints (ns : List Int) : SeqAt.shaped (.tuple (ns.map PyData.int)) = true := by
  have h1 : PyData.canLay0 (.tuple (ns.map PyData.int)) = true := Rd.canLay_ints ns
  have h2 : PyData.depth (.tuple (ns.map PyData.int)) = 1 := by
    show PyData.depthAll (ns.map PyData.int) + 1 = 1
    rw [Rd.depth_ints]
  unfold SeqAt.shaped
  rw [h1, h2]
  rfl
theorem eqIntsT {K : PySem.W.Frag} {H : Hp} {a b : Addr} {ns ms : List Int} {Q : VK} (h1 : SqT K H a (ns.map V.int)) (h2 : SqT K H b (ms.map V.int)) (q : Q (.bl (decide (ns = ms))) H) : rEqD K (.ref a) (.ref b) H Q := by
  refine ⟨_, _, .tup h1 (Rd.dpAll_ints ns), .tup h2 (Rd.dpAll_ints ms), shapedT_ints ns, shapedT_ints ms, ?_⟩
  show Q (.bl (PyData.eqvAll (ns.map PyData.int) (ms.map PyData.int))) H
  rw [Rd.eqv_ints]
  exact q
theorem eqNonT {K : PySem.W.Frag} {H : Hp} {b : Addr} {ms : List Int} {Q : VK} (h2 : SqT K H b (ms.map V.int)) (q : Q (.bl false) H) : rEqD K .non (.ref b) H Q := ⟨.none, _, .non, .tup h2 (Rd.dpAll_ints ms), by decide, shapedT_ints ms, q⟩
/-- what calmest answers -/
def Calm (H H' : Hp) (ws : List Str) (z : Str) (r : V) : Prop := (r = .non ∧ ¬ Mw.Told ws z) ∨ ∃ (q : Addr) (P : List Nat), r = .ref q ∧ H' q = some (.tup (natV P)) ∧ H q = none ∧ Mk.Gc (Mw.Adj ws z) z.length 0 true P
def sp_calmest (K : PySem.W.Frag) (C : Addr) : Sp := fun vs H Q _ => ∃ (a : Addr) (ws : List Str) (z : Str), vs = [.ref a, .str z] ∧ BookAt C H a ws ∧ Watches ws ∧ Lt.Wd 40 z ∧ ∀ (r : V) H', Same H H' → Calm H H' ws z r → Q r H'
theorem pair_eq {p q : Nat × Nat} : decide ([(p.1 : Int), (p.2 : Int)] = [(q.1 : Int), (q.2 : Int)]) = decide (some p = some q) := decide_eq_decide.mpr ⟨fun h => by
  have h1 := (List.cons.inj h).1
  have h2 := (List.cons.inj (List.cons.inj h).2).1
  exact congrArg some (Prod.ext (by omega) (by omega)), fun h => by rw [Option.some.inj h]⟩
theorem ok_calmest (T : Txt w K mg) : FnOk P w K mg base CX0 5 T.f_calmest T.fd_calmest ["book", "word"] (sp_calmest K T.C_Book) := by
  refine T.F_calmest.ok sc_calmest (fun vs H Q E h => ?_) (fun cdv A outer s H vs Q E hr h => ?_)
  · obtain ⟨a, ws, z, rfl, _⟩ := h
    rfl
  · obtain ⟨a, ws, z, rfl, hB, L, hz, k⟩ := h
    refine ⟨_, (pss_cons (ps_expr (pe_call (ok_check_book T) (hr.mono (by decide)) rfl T.g_check_book T.F_check_book.kp T.b_check_book .nil pass0 (pa_cons (pv 0) pa_nil)))
  (pss_cons (ps_expr (pe_call (ok_check_word T) (hr.mono (by decide)) rfl T.g_check_word T.F_check_word.kp T.b_check_word .nil pass0 (pa_cons (pv 1) pa_nil)))
  (pss_cons (ps_set (i := 2) sc_calmest.nd rfl (.inl rfl) (pe_call (ok_links_of T) (hr.mono (by decide)) rfl T.g_links_of T.F_links_of.kp T.b_links_of .nil pass0 (pa_cons (pe_fld (pv 0) rfl) (pa_cons (pv 1) pa_nil))))
  (pss_cons (ps_set (i := 3) sc_calmest.nd rfl (.inr rfl) (pe_call (ok_calm_costs T) (hr.mono (by decide)) rfl T.g_calm_costs T.F_calm_costs.kp T.b_calm_costs .nil pass0 (pa_cons (pv 2) pa_nil)))
  (pss_cons (ps_if (pt_cmp (pc_dnotin (hu_of hr) (pe_tup (pa_cons pe_int (pa_cons pe_int pa_nil))) (pv 3)))
  (pss_one (ps_ret pe_non))
  pss_nil)
  (pss_cons (ps_set (i := 4) sc_calmest.nd rfl (.inl rfl) (pe_lst (pa_cons pe_int pa_nil)))
  (pss_cons (ps_set (i := 5) sc_calmest.nd rfl (.inr rfl) pe_int)
  (pss_cons (ps_while PassesOwn.never (pt_cmpR op_ne (pe_ix (r := rIxL K) ix_list (pv 4) (pe_un un_neg pe_int) (fun _ _ => rfl)) (pe_callB (id := "len") (r := _) Rd.c_lenS (by rfl) T.n_len (by decide +kernel) (pa_cons (pv 1) pa_nil)) (nomark _))
  (pss_cons (ps_set (i := 6) sc_calmest.nd rfl (.inr rfl) (pe_ix (r := rIxL K) ix_list (pv 4) (pe_un un_neg pe_int) (fun _ _ => rfl)))
  (pss_cons (ps_set (i := 7) sc_calmest.nd rfl (.inr rfl) (pe_dget (hu_of hr) (pv 3) (pe_tup (pa_cons (pv 6) (pa_cons (pv 5) pa_nil))) (fun _ _ => rfl)))
  (pss_cons (ps_set (i := 8) sc_calmest.nd rfl (.inl rfl) (pe_ix (r := rIxL K) ix_list (pe_lc (own := [("other", 8)]) (g := gName 8)  rfl sc_calmest.nd (pi_list (pe_ix (r := rIxL K) ix_list (pv 2) (pv 6) (fun _ _ => rfl))) (blkOk_by (own := [("other", 8)]) (N := ["book", "word", "links", "costs", "found", "up", "spot", "left", "other"]) (sc := defScope s_calmest) (by decide +kernel)) (fun _ _ _ _ _ => (pg_name (i := 8) sc_calmest.nd rfl (.inl rfl))) (fun _ _ _ _ _ => pts_one (pt_cmpR (r := rEqD K) (op_eqD hr.units) (pe_call (ok_step_cost T) (hr.mono (by decide)) rfl T.g_step_cost T.F_step_cost.kp T.b_step_cost .nil pass0 (pa_cons (pv 3) (pa_cons (pv 6) (pa_cons (pv 5) (pa_cons (pv 8) pa_nil))))) (pv 7) (nomark _))) (fun _ _ _ _ _ => (pv 8))) pe_int (fun _ _ => rfl)))
  (pss_cons (ps_set (i := 5) sc_calmest.nd rfl (.inr rfl) (pe_callTy (T := "int") (r := _) Rd.c_int (by rfl) T.n_int (by decide +kernel) (pa_cons (pe_cmpR op_gt (pv 8) (pv 6) (nomark _)) pa_nil)))
  (pss_one (ps_expr (pe_bm PySem.F.plainAttrs_list PySem.F.slot_list_append PySem.F.type_list_append mt_append (pv 4) (pa_cons (pv 8) pa_nil)))))))))
  (pss_one (ps_ret (pe_callTy (T := "tuple") (r := Rd.nTupOf K) Rd.c_tupOf (by rfl) T.n_tuple (by decide +kernel) (pa_cons (pv 4) pa_nil)))))))))))), ?_⟩
    have z1 := hz.l1
    have w12 := L.l1
    have zl : z.length ≤ sizeLine := hz.line (by decide)
    have le : ∀ i j, Mw.Adj ws z i j → j ≤ z.length := fun i j h => h.le.2
    walk_at "rd"
    refine ⟨a, ws, rfl, hB, ?_⟩
    walk_at "rd"
    refine ⟨z, rfl, hz, fun H1 s1 => ?_⟩
    walk_at "rd"
    obtain ⟨dx, t, hb1, ht1⟩ := hB.same s1
    refine Rd.fld hb1 T.cl_Book T.na_Book_watches rfl ?_
    walk_at "rd"
    refine ⟨t, ws, z, rfl, .inr (.of ht1), watch_sm L, by omega, by omega, fun p H2 hL s2 _ _ => ?_⟩
    walk_at "rd"
    refine ⟨p, z.length, Mw.Adj ws z, rfl, hL, by omega, le, fun d F kvs H3 s3 nd ca op => ?_⟩
    have s13 := (s1.trans s2).trans s3
    obtain ⟨rs, hp, rl, hr⟩ := hL.same s3
    clear hL hb1 ht1 s1 s2 s3 nd
    walk_at "rd"
    refine ⟨Nat.le_of_ble_eq_true rfl, Rd.new fun tk G4 nk gk s4 => ?_⟩
    walk_at "rd"
    refine ⟨d, _, rfl, DGet.t (k := keyS 0 true) (s4 _ _ ca.at_) gk, ?_⟩
    have ca4 := ca.same s4
    have e4 := ca4.ent 0 true (Nat.zero_le _)
    have s14 := s13.trans s4
    replace hp := s4.seq hp
    have hr4 : ∀ i r, rs[i]? = some r → ∃ ms : List Int, SqL K G4 r (ms.map V.int) ∧ (ms.Pairwise (· ≤ ·) ∧ ms.length ≤ 1000000) ∧ ∀ x, x ∈ ms ↔ ∃ j : Nat, x = j ∧ Mw.Adj ws z i j := fun i r e => by
      obtain ⟨ms, m1, m2⟩ := hr i r e
      exact ⟨ms, s4.seq m1, m2⟩
    clear ca s13 s4 gk nk hr
    walk_at "rd"
    cases e0 : F 0 true with
    | none =>
      rw [e0] at e4
      rw [show valV kvs (keyS 0 true) = none from e4]
      walk_at "go"
      refine k _ _ s14 (.inl ⟨rfl, fun told => ?_⟩)
      obtain ⟨t, k', cw⟩ := Mk.cw_star (u := true).mpr told
      obtain ⟨p0, hp0⟩ := Mk.least_ex cw
      rw [(op 0 true p0 (Nat.zero_le _)).mpr hp0] at e0
      cases e0
    | some p0 =>
      rw [e0] at e4
      obtain ⟨q0, e4, _⟩ := e4
      rw [e4]
      rw [if_pos (show (some (V.ref q0)).isSome = true from rfl)]
      walk_at "rd"
      refine ⟨Nat.le_of_ble_eq_true rfl, Rd.new fun g G ng gg sG => ?_⟩
      walk_at "rd"
      refine Rd.whl (fun m σ H' => ∃ (pre : List Nat) (cur : Nat) (u : Bool) (pc : Nat × Nat) (o6 o7 o8 : Option V), σ = [some (.ref a), some (.str z), some (.ref p), some (.ref d), some (.ref g), some (.int (b2i u)), o6, o7, o8] ∧ H' g = some (.lst (natV (pre ++ [cur]))) ∧ Same G4 H' ∧ cur ≤ z.length ∧ pre.length + m = p0.2 ∧ F cur u = some pc ∧ m = pc.2 ∧ ∀ P, Mk.Gc (Mw.Adj ws z) z.length cur u P → Mk.Gc (Mw.Adj ws z) z.length 0 true (pre ++ P))
        ⟨p0.2, [], 0, true, p0, none, none, none, rfl, gg, sG, Nat.zero_le _, by simp, e0, rfl, fun P h => h⟩ ?_
      rintro m _ H5 ⟨pre, cur, u, pc, o6, o7, o8, rfl, gg5, s5, cn, pl, ec, rfl, gr⟩
      have last : atI (natV (pre ++ [cur])) (-1) = some (.int (cur : Int)) := by
        unfold natV
        rw [List.map_append, List.map_append]
        exact atI_last _ _
      walk_at "rd"
      refine Rd.ixL (.of gg5) last ?_
      walk_at "rd"
      refine Rd.lenStr zl ?_
      walk_at "rd"
      refine ite2 (fun c2 => ?_) (fun c2 => ?_)
      · have ecu : cur = z.length := by omega
        subst ecu
        walk_at "rd"
        refine Rd.tupOf (.of gg5) (Rd.new fun q G6 nq gq s6 => ?_)
        exact k _ _ ((s14.trans s5).trans s6) (.inr ⟨q, _, rfl, gq, (s14.trans s5).free nq, gr _ (.stop u)⟩)
      · refine Rd.whN ?_
        have ne : cur ≠ z.length := fun e => c2 (by omega)
        have hrow : cur < rs.length := by omega
        obtain ⟨ms, m1, mp, m2⟩ := hr4 cur _ (List.getElem?_eq_getElem hrow)
        have lc := (op cur u pc cn).mp ec
        obtain ⟨o0, q0', a0, lo0, ep0⟩ := lc.next ne
        have eo0 := (op o0 _ q0' (le _ _ a0)).mpr lo0
        walk_at "rd"
        refine Rd.ixL (.of gg5) last ?_
        walk_at "rd"
        have ca5 := ca4.same s5
        refine ⟨Nat.le_of_ble_eq_true rfl, Rd.new fun tk H6 nk gk s6 => ?_⟩
        have ca6 := ca5.same s6
        have en6 := ca6.ent cur u cn
        rw [ec] at en6
        obtain ⟨qe, ev, ge⟩ := en6
        refine ⟨d, .ref qe, rfl, by rw [← ev]; exact DGet.t (k := keyS cur u) ca6.at_ gk, ?_⟩
        have s46 := s5.trans s6
        have gg6 := s6 _ _ gg5
        clear s6 gk nk ca5
        walk_at "rd"
        refine Rd.ixL (s46.seq hp) (atI_nat (Rd.map_ref hrow)) ?_
        walk_at "rd"
        refine ⟨⟨_, s46.seq m1⟩, Rd.lcS walk_list (fun _ s => s.seq (s46.seq m1)) (fun D i acc Hc => acc = ((ms.take i).filter fun x => decide ((F x.toNat (decide (cur < x.toNat))).map (Mk.add u (decide (cur < x.toNat))) = some pc)).map V.int) (fun _ _ _ _ _ => rfl) ?_ ?_⟩
        · rintro D i x G1 _ acc nD hi hD sm rfl ⟨rfl, hx⟩
          obtain ⟨y, hy, rfl⟩ := Rd.map_get hx
          obtain ⟨j, rfl, aj⟩ := (m2 y).mp (List.mem_of_getElem? hy)
          have jn := le _ _ aj
          have lim : ((((ms.take i).filter fun x => decide ((F x.toNat (decide (cur < x.toNat))).map (Mk.add u (decide (cur < x.toNat))) = some pc)).map V.int)).length < sizeLine := by
            rw [List.length_map, sizeLine_eq]
            have h1 := List.length_filter_le (fun x : Int => decide ((F x.toNat (decide (cur < x.toNat))).map (Mk.add u (decide (cur < x.toNat))) = some pc)) (ms.take i)
            rw [List.length_take] at h1
            have h2 := mp.2
            omega
          have st := filt_step (f := fun x : Int => decide ((F x.toNat (decide (cur < x.toNat))).map (Mk.add u (decide (cur < x.toNat))) = some pc)) hy
          rw [Int.toNat_natCast] at st
          walk_at "rd"
          refine ⟨rfl, ?_⟩
          walk_at "rd"
          refine ⟨d, z.length, F, kvs, cur, j, u, rfl, ca6.same sm, jn, fun cv G2 s2 bc => ?_⟩
          have ge2 := s2 _ _ (sm _ _ ge)
          have hD2 := s2 _ _ hD
          have sm2 := sm.trans s2
          walk_at "rd"
          cases e : F j (decide (cur < j)) with
          | none =>
            rw [e] at bc st
            cases (show cv = .non from bc)
            refine eqNonT (ms := [(pc.1 : Int), (pc.2 : Int)]) (.of ge2) ?_
            walk_at "go"
            refine ⟨_, hD2, sm2, ?_⟩
            dsimp only
            rw [st]
            simp
          | some q =>
            rw [e] at bc st
            obtain ⟨qc, rfl, gc⟩ : ∃ qc, cv = .ref qc ∧ G2 qc = some (.tup (pairV (Mk.add u (decide (cur < j)) q))) := bc
            refine eqIntsT (ns := [((Mk.add u (decide (cur < j)) q).1 : Int), ((Mk.add u (decide (cur < j)) q).2 : Int)]) (ms := [(pc.1 : Int), (pc.2 : Int)]) (.of gc) (.of ge2) ?_
            rw [pair_eq]
            walk_at "rd"
            refine ite2 (fun y => ?_) (fun y => ?_)
            · walk_at "rd"
              refine Rd.lcPush hD2 nD sm2 lim fun G3 g3 off3 => ?_
              rw [st, List.map_append]
              rw [if_pos (by first | exact y | exact decide_eq_true y)]
              rfl
            · walk_at "rd"
              refine ⟨_, hD2, sm2, ?_⟩
              dsimp only
              rw [st]
              rw [if_neg (by first | exact y | exact fun c => y (of_decide_eq_true c)), List.append_nil]
        · rintro D acc G1 nD hD sm rfl
          rw [List.length_map, List.take_length] at hD
          obtain ⟨w, r, ef, hmin⟩ := sorted_head (f := fun x : Int => decide ((F x.toNat (decide (cur < x.toNat))).map (Mk.add u (decide (cur < x.toNat))) = some pc)) mp.1 ((m2 _).mpr ⟨o0, rfl, a0⟩) (by
            rw [Int.toNat_natCast, eo0]
            exact decide_eq_true (by rw [ep0]; rfl))
          have wm : w ∈ ms.filter fun x : Int => decide ((F x.toNat (decide (cur < x.toNat))).map (Mk.add u (decide (cur < x.toNat))) = some pc) := by rw [ef]; exact List.mem_cons_self
          obtain ⟨wm1, wm2⟩ := List.mem_filter.mp wm
          obtain ⟨wi, rfl, aw⟩ := (m2 w).mp wm1
          rw [Int.toNat_natCast] at wm2
          have wn := le _ _ aw
          obtain ⟨qw, eqw, epw⟩ : ∃ qw, F wi (decide (cur < wi)) = some qw ∧ Mk.add u (decide (cur < wi)) qw = pc := by
            have := of_decide_eq_true wm2
            cases e : F wi (decide (cur < wi)) with
            | none => rw [e] at this; cases this
            | some qw => rw [e] at this; exact ⟨qw, rfl, Option.some.inj this⟩
          have lw := (op wi _ qw wn).mp eqw
          rw [ef] at hD
          have gg1 := sm _ _ gg6
          walk_at "rd"
          refine Rd.ixL (.of hD) (atI_nat (j := 0) rfl) ?_
          walk_at "rd"
          refine Rd.intB ?_
          rw [gt_dec, show (if decide (cur < wi) = true then (1 : Int) else 0) = b2i (decide (cur < wi)) from rfl]
          walk_at "rd"
          refine Rd.tyL (.of gg1) ?_
          walk_at "rd"
          have few := ((op 0 true p0 (Nat.zero_le _)).mp e0).le le (Nat.zero_le _)
          refine Rd.app gg1 (by rw [natV_len, List.length_append, sizeLine_eq]; show _ + 1 < _; omega) fun G5 g5 off5 => ?_
          walk_at "rd"
          have hm : pc.2 = qw.2 + 1 := by rw [← epw]; rfl
          refine ⟨qw.2, by omega, pre ++ [cur], wi, _, qw, _, _, _, rfl, ?_, fun b o e => ?_, wn, by rw [List.length_append]; show _ + 1 + _ = _; omega, eqw, rfl, fun P h => ?_⟩
          · rw [g5]
            unfold natV
            simp
          · have bg : b ≠ g := ne_of_none e ng
            rw [off5 b bg]
            exact sm _ _ (s46 _ _ e)
          · rw [List.append_assoc]
            refine gr _ (.step ne lc aw lw epw.symm (fun v q' av lv epv => ?_) h)
            have ev := (op v _ q' (le _ _ av)).mpr lv
            have := hmin (v : Int) ((m2 _).mpr ⟨v, rfl, av⟩) (by
              rw [Int.toNat_natCast, ev]
              exact decide_eq_true (by rw [epv]; rfl))
            omega

end
end W

namespace W
open PySem PySem.Spec PyProof.Rows L2
section
variable {P : Program} {w : World} {K : PySem.W.Frag} {mg : Str → Option Value} {base : Heap}
/-! ### judges of true zigzags -/
theorem zip_nat {P : List Nat} {i : Nat} {x y : V} (hx : (natV P)[i]? = some x) (hy : (natV P.tail)[i]? = some y) : ∃ a b : Nat, P[i]? = some a ∧ P[i + 1]? = some b ∧ x = .int (a : Nat) ∧ y = .int (b : Nat) := by
  obtain ⟨a, ha, rfl⟩ := natV_get hx
  obtain ⟨b, hb, rfl⟩ := natV_get hy
  rw [List.getElem?_tail] at hb
  exact ⟨a, b, ha, hb, rfl, rfl⟩
theorem nat_at {P : List Nat} {i a : Nat} (h : P[i]? = some a) : (natV P)[i]? = some (.int (a : Nat)) := by
  unfold natV
  rw [List.getElem?_map, List.getElem?_map, h]
  rfl
theorem nat_mem {P : List Nat} {x : Nat} : ((x : Nat) : Int) ∈ (P.map fun i : Nat => (i : Int)) ↔ x ∈ P := by
  rw [List.mem_map]
  exact ⟨fun ⟨y, m, e⟩ => by have : y = x := by omega
                             subst this; exact m, fun m => ⟨x, m, rfl⟩⟩
theorem lastV {P : List Nat} {n : Nat} (h : P.getLast? = some n) : atI (natV P) (-1) = some (.int (n : Nat)) := by
  obtain ⟨r, rfl⟩ : ∃ r, P = r ++ [n] := by
    rw [List.getLast?_eq_some_iff] at h
    exact h
  unfold natV
  rw [List.map_append, List.map_append]
  exact atI_last _ _
def sp_is_zigzag (K : PySem.W.Frag) (C : Addr) : Sp := fun vs H Q _ => ∃ (b q : Addr) (ws : List Str) (z : Str) (P : List Nat), vs = [.ref b, .str z, .ref q] ∧ BookAt C H b ws ∧ Watches ws ∧ Lt.Wd 40 z ∧ H q = some (.tup (natV P)) ∧ Mp.ZigX (Mw.Adj ws z) z.length 0 P ∧ ∀ H', Same H H' → Q (.bl true) H'
theorem zig_le {ws : List Str} {z : Str} {P : List Nat} (h : Mp.ZigX (Mw.Adj ws z) z.length 0 P) : ∀ y ∈ P, y ≤ z.length := h.le (fun i j a => a.le) (Nat.zero_le _)
theorem zig_few {ws : List Str} {z : Str} {P : List Nat} (h : Mp.ZigX (Mw.Adj ws z) z.length 0 P) : P.length ≤ z.length + 1 := by
  have := Mw.nodup_le P (List.range (z.length + 1)) h.nd fun x m => List.mem_range.mpr (by have := zig_le h x m; omega)
  rwa [List.length_range] at this
theorem set_len {P : List Nat} (nd : P.Nodup) {ks : List Int} (h1 : ks.Nodup) (h2 : ∀ k, k ∈ ks ↔ k ∈ P.map fun i : Nat => (i : Int)) : ks.length = P.length := by
  have n2 : (P.map fun i : Nat => (i : Int)).Nodup := by
    rw [List.nodup_iff_pairwise_ne, List.pairwise_map]
    exact (List.nodup_iff_pairwise_ne.mp nd).imp fun h e => h (by omega)
  have := ((List.perm_ext_iff_of_nodup h1 n2).mpr h2).length_eq
  rwa [List.length_map] at this
theorem slNat {K : PySem.W.Frag} {H : Hp} {a : Addr} {P : List Nat} {i : Nat} {Q : VK} (hp : SqT K H a (natV P)) (hi : i < P.length) (h : Rd.NewQ (.tup (natV (P.take i))) Q H) : rSlT K (.ref a) none (some (0 + (i : Int))) H Q := by
  rw [Int.zero_add]
  have e1 : HT.sIx (natV P).length (natV P).length (some (i : Int)) = i := by rw [HT.sIx_nat, natV_len]; omega
  refine Rw.slT hp (fun ⟨_, e⟩ => ?_) ?_
  · rw [e1, natV_len] at e
    omega
  · have e : cutV (natV P) none (some (i : Int)) = natV (P.take i) := by
      show ((natV P).drop 0).take (HT.sIx (natV P).length (natV P).length (some (i : Int)) - 0) = _
      rw [e1, List.drop_zero, Nat.sub_zero]
      unfold natV
      rw [← List.map_take, ← List.map_take]
    rw [e]
    exact h

end
end W

namespace W
open PySem PySem.Spec PyProof.Rows L2
section
variable {P : Program} {w : World} {K : PySem.W.Frag} {mg : Str → Option Value} {base : Heap}
/-! ### rules: steps between spots -/
def stepOf (z : Str) (i j : Nat) : Str × Str := if i < j then (("on" : Str), cutS z (some (i : Int)) (some (j : Int))) else (("back" : Str), cutS z (some (j : Int)) (some (i : Int)))
def stepsOf (z : Str) : List Nat → List (Str × Str)
  | i :: j :: P => stepOf z i j :: stepsOf z (j :: P)
  | _ => []
theorem stepsOf_len (z : Str) : ∀ P : List Nat, (stepsOf z P).length = P.length - 1
  | [] => rfl
  | [_] => rfl
  | i :: j :: P => by
    show (stepsOf z (j :: P)).length + 1 = _
    rw [stepsOf_len z (j :: P)]
    simp
theorem stepsOf_get {z : Str} : ∀ {P : List Nat} {k i j : Nat}, P[k]? = some i → P.tail[k]? = some j → (stepsOf z P)[k]? = some (stepOf z i j)
  | i :: j :: P, 0, _, _, h1, h2 => by
    simp at h1 h2
    subst h1 h2
    rfl
  | i :: j :: P, k + 1, _, _, h1, h2 => by
    show (stepsOf z (j :: P))[k]? = _
    exact stepsOf_get (P := j :: P) (by simpa using h1) (by simpa using h2)
  | [i], k, _, _, h1, h2 => by simp at h2
  | [], k, _, _, h1, h2 => by simp at h1
/-- the steps ss stand as a tuple at q -/
def StepsAt (H : Hp) (q : Addr) (ss : List (Str × Str)) : Prop := ∃ rs : List Addr, H q = some (.tup (rs.map V.ref)) ∧ rs.length = ss.length ∧ ∀ (i : Nat) (r : Addr) (s : Str × Str), rs[i]? = some r → ss[i]? = some s → H r = some (.tup [.str s.1, .str s.2])
theorem StepsAt.keep {H H' : Hp} {q : Addr} {ss : List (Str × Str)} (h : StepsAt H q ss) (s : ∀ b xs, H b = some (.tup xs) → H' b = some (.tup xs)) : StepsAt H' q ss := let ⟨rs, h1, h2, h3⟩ := h; ⟨rs, s _ _ h1, h2, fun i r x e1 e2 => s _ _ (h3 i r x e1 e2)⟩
theorem StepsAt.same {H H' : Hp} {q : Addr} {ss : List (Str × Str)} (h : StepsAt H q ss) (s : Same H H') : StepsAt H' q ss := h.keep fun b xs => s b _
def stepD (s : Str × Str) : PyData := .tuple [.str s.1, .str s.2]
theorem steps_dp {K : PySem.W.Frag} {H : Hp} : ∀ {ss : List (Str × Str)} {rs : List Addr}, rs.length = ss.length → (∀ (i : Nat) (r : Addr) (s : Str × Str), rs[i]? = some r → ss[i]? = some s → H r = some (.tup [.str s.1, .str s.2])) → DpAll K H (rs.map V.ref) (ss.map stepD)
  | [], [], _, _ => .nil
  | s :: ss, r :: rs, l, h => .cons (.tup (.of (h 0 r s rfl rfl)) (.cons (.str _) (.cons (.str _) .nil))) (steps_dp (by simpa using l) fun i r' s' e1 e2 => h (i + 1) r' s' (by simpa using e1) (by simpa using e2))
theorem StepsAt.dp {K : PySem.W.Frag} {H : Hp} {q : Addr} {ss : List (Str × Str)} (h : StepsAt H q ss) : Dp K H (.ref q) (.tuple (ss.map stepD)) := let ⟨_, h1, h2, h3⟩ := h; .tup (.of h1) (steps_dp h2 h3)
theorem StepsAt.row {H : Hp} {q : Addr} {ss : List (Str × Str)} (h : StepsAt H q ss) : ∃ rs : List Addr, H q = some (.tup (rs.map V.ref)) ∧ rs.length = ss.length ∧ ∀ (i : Nat) (r : Addr), rs[i]? = some r → ∃ s, ss[i]? = some s ∧ H r = some (.tup [.str s.1, .str s.2]) := by
  obtain ⟨rs, h1, h2, h3⟩ := h
  refine ⟨rs, h1, h2, fun i r e => ?_⟩
  have l : i < ss.length := by rw [← h2]; exact (List.getElem?_eq_some_iff.mp e).1
  exact ⟨ss[i], List.getElem?_eq_getElem l, h3 i r _ e (List.getElem?_eq_getElem l)⟩
def sp_steps_between (K : PySem.W.Frag) : Sp := fun vs H Q _ => ∃ (q : Addr) (z : Str) (P : List Nat), vs = [.str z, .ref q] ∧ H q = some (.tup (natV P)) ∧ P ≠ [] ∧ P.length ≤ 1000 ∧ z.length ≤ 1000 ∧ ∀ (p : Addr) H', StepsAt H' p (stepsOf z P) → Same H H' → H p = none → Q (.ref p) H'
theorem ok_steps_between (T : Txt w K mg) : FnOk P w K mg base CX0 1 T.f_steps_between T.fd_steps_between ["word", "spots"] (sp_steps_between K) := by
  refine T.F_steps_between.ok sc_steps_between (fun vs H Q E h => ?_) (fun cdv A outer s H vs Q E hr h => ?_)
  · obtain ⟨q, z, P, rfl, _⟩ := h
    rfl
  · obtain ⟨q, z, P, rfl, hq, n0, hl, zl0, k⟩ := h
    refine ⟨_, (pss_cons (ps_set (i := 2) sc_steps_between.nd rfl (.inl rfl) (pe_lst pa_nil))
  (pss_cons (ps_for PassesOwn.never rfl (RZ.pi_zipA (by rfl) T.n_zip (pa_cons (pv 1) (pa_cons (pe_slice (r := rSlT K) sl_tup (pv 1) (po_some pe_int) po_none) pa_nil))) (pg_tup rfl (pgs_cons (pg_name (i := 3) sc_steps_between.nd rfl (.inl rfl)) (pgs_cons (pg_name (i := 4) sc_steps_between.nd rfl (.inl rfl)) pgs_nil)))
  (pss_one (ps_if (pt_cmpR op_lt (pv 3) (pv 4) (nomark _))
  (pss_one (ps_expr (pe_bm PySem.F.plainAttrs_list PySem.F.slot_list_append PySem.F.type_list_append mt_append (pv 2) (pa_cons (pe_tup (pa_cons pe_str (pa_cons (pe_slice sl_str (pv 0) (po_some (pv 3)) (po_some (pv 4))) pa_nil))) pa_nil))))
  (pss_one (ps_expr (pe_bm PySem.F.plainAttrs_list PySem.F.slot_list_append PySem.F.type_list_append mt_append (pv 2) (pa_cons (pe_tup (pa_cons pe_str (pa_cons (pe_slice sl_str (pv 0) (po_some (pv 4)) (po_some (pv 3))) pa_nil))) pa_nil)))))))
  (pss_one (ps_ret (pe_callTy (T := "tuple") (r := Rd.nTupOf K) Rd.c_tupOf (by rfl) T.n_tuple (by decide +kernel) (pa_cons (pv 2) pa_nil)))))), ?_⟩
    have zl : z.length ≤ sizeLine := by rw [sizeLine_eq]; omega
    walk_at "go"
    refine ⟨Nat.zero_le _, Rd.new fun l G nl gl sG => ?_⟩
    walk_at "go"
    refine Rd.forS ?_
    walk_at "go"
    have nn : natV P ≠ [] := fun e => n0 (by
      have := congrArg List.length e
      unfold natV at this
      simp at this
      exact this)
    refine Rw.sl1 (by k_extra "sq") nn (Rd.new fun q2 G2 nq2 gq2 s2 => ?_)
    have et : (natV P).tail = natV P.tail := by
      unfold natV
      rw [← List.map_tail, ← List.map_tail]
    rw [et] at gq2
    refine Rw.zipT (xs := natV P) (ys := natV P.tail) (by k_extra "sq") (by k_extra "sq") ?_
    have hml : min (natV P).length (natV P.tail).length = P.length - 1 := by unfold natV; simp
    refine for_it (Rw.walk_zipT hml.symm) (fun i σ H' => ∃ (o3 o4 : Option V) (rs : List Addr), σ = [some (.str z), some (.ref q), some (.ref l), o3, o4] ∧ Same H H' ∧ H' q2 = some (.tup (natV P.tail)) ∧ H' l = some (.lst (rs.map V.ref)) ∧ rs.length = i ∧ ∀ (k : Nat) (r : Addr) (s : Str × Str), k < i → rs[k]? = some r → (stepsOf z P)[k]? = some s → H' r = some (.tup [.str s.1, .str s.2]))
      ⟨_, _, [], rfl, sG.trans s2, gq2, s2 _ _ gl, rfl, fun k r s h => by omega⟩ (fun i σ H' _ ⟨_, _, _, _, s, h2, _⟩ => ⟨.of (s _ _ hq), .of h2⟩) ?_ ?_
    · rintro i x _ H1 _ hi ⟨o3, o4, rs, rfl, s1, g2, gl1, ln, hr⟩ ⟨T', x', y', rfl, hT, rfl, hx, hy⟩
      obtain ⟨a, ha, rfl⟩ : ∃ a : Nat, P[i]? = some a ∧ x' = .int (a : Int) := by
        unfold natV at hx
        obtain ⟨n, h1, h2⟩ := Rd.map_get hx
        rw [List.getElem?_map] at h1
        cases e : P[i]? with
        | none => rw [e] at h1; cases h1
        | some b => rw [e] at h1; exact ⟨b, rfl, by rw [h2, ← Option.some.inj h1]⟩
      obtain ⟨b, hb, rfl⟩ : ∃ b : Nat, P.tail[i]? = some b ∧ y' = .int (b : Int) := by
        unfold natV at hy
        obtain ⟨n, h1, h2⟩ := Rd.map_get hy
        rw [List.getElem?_map] at h1
        cases e : P.tail[i]? with
        | none => rw [e] at h1; cases h1
        | some c => rw [e] at h1; exact ⟨c, rfl, by rw [h2, ← Option.some.inj h1]⟩
      have sT := Rd.same_upd (o := .tup [.int (a : Int), .int (b : Int)]) hT
      have gT : upd H1 T' (.tup [.int (a : Int), .int (b : Int)]) T' = some (.tup [.int (a : Int), .int (b : Int)]) := upd_same
      generalize upd H1 T' (.tup [.int (a : Int), .int (b : Int)]) = H2 at sT gT
      refine Rd.tupT (.of gT) rfl ?_
      have hs := stepsOf_get (z := z) ha hb
      have fin : ∀ (w : Str) (y : Str), stepOf z a b = (w, y) → ∀ (e : Addr) (G3 G4 : Hp), H2 e = none → G3 e = some (.tup [.str w, .str y]) → Same H2 G3 → G4 l = some (.lst (rs.map V.ref ++ [.ref e])) → (∀ c, c ≠ l → G4 c = G3 c) →
          ∃ (o3 o4 : Option V) (rs' : List Addr), [some (V.str z), some (V.ref q), some (V.ref l), some (V.int (a : Int)), some (V.int (b : Int))] = [some (.str z), some (.ref q), some (.ref l), o3, o4] ∧ Same H G4 ∧ G4 q2 = some (.tup (natV P.tail)) ∧ G4 l = some (.lst (rs'.map V.ref)) ∧ rs'.length = i + 1 ∧ ∀ (k : Nat) (r : Addr) (s : Str × Str), k < i + 1 → rs'[k]? = some r → (stepsOf z P)[k]? = some s → G4 r = some (.tup [.str s.1, .str s.2]) := by
        intro w y ew e G3 G4 ne ge s3 g4 off4
        have nlH : H l = none := nl
        have gl2 := s3 _ _ (sT _ _ gl1)
        refine ⟨_, _, rs ++ [e], rfl, ?_, ?_, by rw [List.map_append]; exact g4, by rw [List.length_append, ln]; rfl, ?_⟩
        · exact Rd.same_off ((s1.trans sT).trans s3) nl off4
        · rw [off4 q2 (ne_of (s3 _ _ (sT _ _ g2)) gl2 (fun e => nomatch e))]
          exact s3 _ _ (sT _ _ g2)
        · intro k r s hk hr' hs'
          rcases Nat.lt_succ_iff_lt_or_eq.mp hk with h | h
          · rw [List.getElem?_append_left (by omega)] at hr'
            have := s3 _ _ (sT _ _ (hr k r s h hr' hs'))
            rw [off4 r (ne_of this gl2 (fun e => nomatch e))]
            exact this
          · subst h
            rw [List.getElem?_append_right (by omega), ln, Nat.sub_self] at hr'
            have : e = r := by simpa using hr'
            subst this
            rw [hs, ew] at hs'
            cases hs'
            rw [off4 e (ne_of ge gl2 (fun e => nomatch e))]
            exact ge
      walk_at "go"
      refine ite2 (fun c => ?_) (fun c => ?_)
      · have ew : stepOf z a b = (("on" : Str), cutS z (some (a : Int)) (some (b : Int))) := if_pos (by omega)
        walk_at "go"
        refine ⟨Nat.le_of_ble_eq_true rfl, Rd.new fun e G3 ne ge s3 => ?_⟩
        walk_at "go"
        refine Rd.app (by k_extra "at") (by k_extra "sz") fun G4 g4 off4 => ?_
        walk_at "go"
        exact fin _ _ ew e G3 G4 ne ge s3 g4 off4
      · have ew : stepOf z a b = (("back" : Str), cutS z (some (b : Int)) (some (a : Int))) := if_neg (by omega)
        walk_at "go"
        refine ⟨Nat.le_of_ble_eq_true rfl, Rd.new fun e G3 ne ge s3 => ?_⟩
        walk_at "go"
        refine Rd.app (by k_extra "at") (by k_extra "sz") fun G4 g4 off4 => ?_
        walk_at "go"
        exact fin _ _ ew e G3 G4 ne ge s3 g4 off4
    · rintro _ H1 ⟨o3, o4, rs, rfl, s1, g2, gl1, ln, hr⟩
      walk_at "go"
      refine Rd.tupOf (by k_extra "sq") (Rd.new fun p G np gp s2 => ?_)
      refine k p G ⟨rs, gp, by rw [ln, stepsOf_len], fun i r s e1 e2 => s2 _ _ (hr i r s ?_ e1 e2)⟩ (s1.trans s2) (s1.free np)
      have := (List.getElem?_eq_some_iff.mp e1).1
      omega

end
end W

namespace W
open PySem PySem.Spec PyProof.Rows L2
section
variable {P : Program} {w : World} {K : PySem.W.Frag} {mg : Str → Option Value} {base : Heap}
/-- what rule answers -/
def Rule (H H' : Hp) (ws : List Str) (z : Str) (r : V) : Prop := (r = .non ∧ ¬ Mw.Told ws z) ∨ ∃ (q : Addr) (P : List Nat), r = .ref q ∧ StepsAt H' q (stepsOf z P) ∧ H q = none ∧ Mz.Gr (Mw.Adj ws z) z.length 0 P
def sp_rule_by (K : PySem.W.Frag) : Sp := fun vs H Q _ => ∃ (a : Addr) (ws : List Str) (z : Str), vs = [.ref a, .str z] ∧ Ru.SqR K H a (ws.map V.str) ∧ (∀ W ∈ ws, 1 ≤ W.length ∧ W.length ≤ 1000) ∧ ws.length ≤ 100 ∧ z.length ≤ 900 ∧ ∀ (r : V) H', Same H H' → Rule H H' ws z r → Q r H'
def sp_rule (K : PySem.W.Frag) (C : Addr) : Sp := fun vs H Q _ => ∃ (a : Addr) (ws : List Str) (z : Str), vs = [.ref a, .str z] ∧ BookAt C H a ws ∧ Watches ws ∧ Lt.Wd 40 z ∧ ∀ (r : V) H', Same H H' → Rule H H' ws z r → Q r H'
theorem gr_len {A : Nat → Nat → Prop} {n : Nat} (hA : ∀ i j, A i j → j ≤ n) {x : Nat} {P : List Nat} (hx : x ≤ n) (h : Mz.Gr A n x P) : P ≠ [] ∧ P.length ≤ n + 1 ∧ ∀ d, Mz.Dist A x n d → P.length = d + 1 := by
  induction h with
  | stop => exact ⟨by simp, by simp, fun d hd => by rw [hd.inj Mz.Dist.zero]; rfl⟩
  | step hx' r hw _ _ ih =>
    obtain ⟨h1, h2, h3⟩ := ih (hA _ _ r)
    have e := h3 _ hw
    refine ⟨by simp, ?_, fun d hd => by rw [hd.inj hx', List.length_cons, e]⟩
    have := hx'.le hA hx
    rw [List.length_cons, e]
    omega
theorem ok_rule_by (T : Txt w K mg) : FnOk P w K mg base CX0 3 T.f_rule_by T.fd_rule_by ["watches", "word"] (sp_rule_by K) := by
  refine T.F_rule_by.ok sc_rule_by (fun vs H Q E h => ?_) (fun cdv A outer s H vs Q E hr h => ?_)
  · obtain ⟨a, ws, z, rfl, _⟩ := h
    rfl
  · obtain ⟨a, ws, z, rfl, hS, hw, l1, l2, k⟩ := h
    refine ⟨_, (pss_cons (ps_set (i := 2) sc_rule_by.nd rfl (.inl rfl) (pe_call (ok_shortest T) (hr.mono (by decide)) rfl T.g_shortest T.F_shortest.kp T.b_shortest .nil pass0 (pa_cons (pv 0) (pa_cons (pv 1) pa_nil))))
  (pss_one (ps_ret (pe_ifExp (pt_cmpR op_isN (pv 2) pe_non (nomark _)) pe_non (pe_call (ok_steps_between T) (hr.mono (by decide)) rfl T.g_steps_between T.F_steps_between.kp T.b_steps_between .nil pass0 (pa_cons (pv 1) (pa_cons (pv 2) pa_nil))))))), ?_⟩
    walk_at "go"
    refine ⟨a, ws, z, rfl, hS, hw, l1, by omega, fun r H1 s1 zg => ?_⟩
    walk_at "go"
    rcases zg with ⟨rfl, nt⟩ | ⟨q, P, rfl, hq, nq, g⟩
    · walk_at "go"
      exact k _ _ s1 (.inl ⟨rfl, nt⟩)
    · walk_at "go"
      have ⟨n0, pl, _⟩ := gr_len (fun i j h => h.le.2) (Nat.zero_le _) g
      refine ⟨q, z, P, rfl, hq, n0, by omega, by omega, fun p H2 hp s2 np => ?_⟩
      exact k _ _ (s1.trans s2) (.inr ⟨p, P, rfl, hp, s1.free np, g⟩)
theorem ok_rule (T : Txt w K mg) : FnOk P w K mg base CX0 5 T.f_rule T.fd_rule ["book", "word"] (sp_rule K T.C_Book) := by
  refine T.F_rule.ok sc_rule (fun vs H Q E h => ?_) (fun cdv A outer s H vs Q E hr h => ?_)
  · obtain ⟨a, ws, z, rfl, _⟩ := h
    rfl
  · obtain ⟨a, ws, z, rfl, hB, Wt, hz, k⟩ := h
    refine ⟨_, (pss_cons (ps_expr (pe_call (ok_check_book T) (hr.mono (by decide)) rfl T.g_check_book T.F_check_book.kp T.b_check_book .nil pass0 (pa_cons (pv 0) pa_nil)))
  (pss_cons (ps_expr (pe_call (ok_check_word T) (hr.mono (by decide)) rfl T.g_check_word T.F_check_word.kp T.b_check_word .nil pass0 (pa_cons (pv 1) pa_nil)))
  (pss_one (ps_ret (pe_call (ok_rule_by T) (hr.mono (by decide)) rfl T.g_rule_by T.F_rule_by.kp T.b_rule_by .nil pass0 (pa_cons (pe_fld (pv 0) rfl) (pa_cons (pv 1) pa_nil))))))), ?_⟩
    walk_at "go"
    refine ⟨a, ws, rfl, hB, ?_⟩
    walk_at "go"
    refine ⟨z, rfl, hz, fun H1 s1 => ?_⟩
    walk_at "go"
    obtain ⟨dx, t, hb, ht⟩ := hB.same s1
    refine Rd.fld hb T.cl_Book T.na_Book_watches rfl ?_
    walk_at "go"
    have w1 := Wt.l1
    have z1 := hz.l1
    exact ⟨t, ws, z, rfl, .inr (.of ht), fun W m => ⟨(Wt.ok W m).l0, by have := (Wt.ok W m).l1; omega⟩, by omega, by omega, fun r H2 s2 zg => k _ _ (s1.trans s2) (zg.imp id fun ⟨q, P, h1, h2, h3, h4⟩ => ⟨q, P, h1, h2, s1.free h3, h4⟩)⟩

end
end W

namespace W
open PySem PySem.Spec PyProof.Rows L2
section
variable {P : Program} {w : World} {K : PySem.W.Frag} {mg : Str → Option Value} {base : Heap}
/-! ### rules judged -/
structure StepOk (s : Str × Str) : Prop where
  way : s.1 = ("on" : Str) ∨ s.1 = ("back" : Str)
  wd : Lt.Wd 12 s.2
structure RuleOk (ss : List (Str × Str)) : Prop where
  l1 : 1 ≤ ss.length
  l80 : ss.length ≤ 80
  ok : ∀ s ∈ ss, StepOk s
  first : ∃ y, ss[0]? = some (("on" : Str), y)
  last : ∃ y, ss[ss.length - 1]? = some (("on" : Str), y)
theorem steps_inv {z : Str} {P : List Nat} {k : Nat} {s : Str × Str} (h : (stepsOf z P)[k]? = some s) : ∃ i j, P[k]? = some i ∧ P[k + 1]? = some j ∧ s = stepOf z i j := by
  have l := (List.getElem?_eq_some_iff.mp h).1
  rw [stepsOf_len] at l
  have ha : P[k]? = some (P[k]'(by omega)) := List.getElem?_eq_getElem _
  have hb : P[k + 1]? = some (P[k + 1]'(by omega)) := List.getElem?_eq_getElem _
  have := stepsOf_get (z := z) ha (by rw [List.getElem?_tail]; exact hb)
  rw [h] at this
  exact ⟨_, _, ha, hb, Option.some.inj this⟩
theorem step_mem {ws : List Str} {z : Str} (hw : ∀ W ∈ ws, 1 ≤ W.length) {i j : Nat} (a : Mw.Adj ws z i j) : (stepOf z i j).2 ∈ ws ∧ i ≠ j := by
  have l := a.le
  obtain ⟨ne, m⟩ := (adj_near hw l.1 l.2).mp a
  refine ⟨?_, fun e => ne e.symm⟩
  unfold stepOf
  by_cases c : i < j
  · rw [if_pos c]
    rw [show min (i : Int) (j : Int) = i by omega, show max (i : Int) (j : Int) = j by omega] at m
    exact m
  · rw [if_neg c]
    rw [show min (i : Int) (j : Int) = j by omega, show max (i : Int) (j : Int) = i by omega] at m
    exact m
theorem step_lenI {z : Str} {a b : Nat} (ha : a ≤ z.length) (hb : b ≤ z.length) : ((stepOf z a b).2.length : Int) = if a < b then (b : Int) - a else (a : Int) - b := by
  unfold stepOf
  by_cases c : a < b
  · rw [if_pos c, if_pos c]
    exact Lt.cut_lenI (by omega) (by omega) (by omega)
  · rw [if_neg c, if_neg c]
    exact Lt.cut_lenI (by omega) (by omega) (by omega)
theorem step_cut {z : Str} {a b : Nat} : cutS z (some (min (a : Int) b)) (some (max (a : Int) b)) = (stepOf z a b).2 := by
  unfold stepOf
  by_cases c : a < b
  · rw [if_pos c, show min (a : Int) b = a by omega, show max (a : Int) b = b by omega]
  · rw [if_neg c, show min (a : Int) b = b by omega, show max (a : Int) b = a by omega]
theorem rule_ok {ws : List Str} {z : Str} {P : List Nat} (L : Watches ws) (hz : Lt.Wd 40 z) (zx : Mp.ZigX (Mw.Adj ws z) z.length 0 P) : RuleOk (stepsOf z P) := by
  have hw : ∀ W ∈ ws, 1 ≤ W.length := fun W m => (L.ok W m).l0
  have z0 := hz.l0
  have z1 := hz.l1
  have p2 := zx.len (by omega)
  have pz := zig_few zx
  have pm := zig_le zx
  have sl := stepsOf_len z P
  refine ⟨by omega, by omega, fun s m => ?_, ?_, ?_⟩
  · obtain ⟨k, hk, e⟩ := List.getElem_of_mem m
    obtain ⟨i, j, hi, hj, rfl⟩ := steps_inv (List.getElem?_eq_some_iff.mpr ⟨hk, e⟩)
    obtain ⟨sm, ne⟩ := step_mem hw (zx.adj k i j hi hj)
    refine ⟨?_, L.ok _ sm⟩
    unfold stepOf
    split
    · exact .inl rfl
    · exact .inr rfl
  · have hb : P[1]? = some (P[1]'(by omega)) := List.getElem?_eq_getElem _
    have hs := stepsOf_get (z := z) (k := 0) zx.head (by rw [List.getElem?_tail]; exact hb)
    have ne := (step_mem hw (zx.adj 0 _ _ zx.head hb)).2
    rw [hs]
    unfold stepOf
    rw [if_pos (by omega)]
    exact ⟨_, rfl⟩
  · have ha : P[P.length - 2]? = some (P[P.length - 2]'(by omega)) := List.getElem?_eq_getElem _
    have hb : P[P.length - 2 + 1]? = some z.length := by
      rw [show P.length - 2 + 1 = P.length - 1 by omega, ← List.getLast?_eq_getElem?]
      exact zx.last
    have hs := stepsOf_get (z := z) (k := P.length - 2) ha (by rw [List.getElem?_tail]; exact hb)
    have ne := (step_mem hw (zx.adj _ _ _ ha hb)).2
    have le := pm _ (List.mem_of_getElem? ha)
    rw [sl, show P.length - 1 - 1 = P.length - 2 by omega, hs]
    unfold stepOf
    rw [if_pos (by omega)]
    exact ⟨_, rfl⟩
theorem atI_lastG {xs : List V} {v : V} (h : xs.getLast? = some v) : atI xs (-1) = some v := by
  obtain ⟨r, rfl⟩ := List.getLast?_eq_some_iff.mp h
  exact atI_last _ _
def sp_is_step (K : PySem.W.Frag) : Sp := fun vs H Q _ => ∃ (r : Addr) (s : Str × Str), vs = [.ref r] ∧ H r = some (.tup [.str s.1, .str s.2]) ∧ StepOk s ∧ ∀ H', Same H H' → Q (.bl true) H'
def sp_are_steps (K : PySem.W.Frag) : Sp := fun vs H Q _ => ∃ (q : Addr) (ss : List (Str × Str)), vs = [.ref q] ∧ StepsAt H q ss ∧ RuleOk ss ∧ ∀ H', Same H H' → Q (.bl true) H'
def sp_check_steps (K : PySem.W.Frag) : Sp := fun vs H Q _ => ∃ (q : Addr) (ss : List (Str × Str)), vs = [.ref q] ∧ StepsAt H q ss ∧ RuleOk ss ∧ ∀ H', Same H H' → Q (.ref q) H'
def sp_spots_of (K : PySem.W.Frag) : Sp := fun vs H Q _ => ∃ (q : Addr) (ws : List Str) (z : Str) (P : List Nat), vs = [.str z, .ref q] ∧ StepsAt H q (stepsOf z P) ∧ Watches ws ∧ Lt.Wd 40 z ∧ Mp.ZigX (Mw.Adj ws z) z.length 0 P ∧ ∀ (p : Addr) H', Same H H' → H p = none → H' p = some (.tup (natV P)) → Q (.ref p) H'
def sp_followed (K : PySem.W.Frag) : Sp := fun vs H Q _ => ∃ (q : Addr) (ws : List Str) (z : Str) (P : List Nat), vs = [.str z, .ref q] ∧ StepsAt H q (stepsOf z P) ∧ Watches ws ∧ Lt.Wd 40 z ∧ Mp.ZigX (Mw.Adj ws z) z.length 0 P ∧ ∀ (p : Addr) H', Same H H' → H p = none → H' p = some (.tup (natV P)) → Q (.ref p) H'
def sp_rule_of (K : PySem.W.Frag) (C : Addr) : Sp := fun vs H Q _ => ∃ (b q : Addr) (ws : List Str) (z : Str) (P : List Nat), vs = [.ref b, .str z, .ref q] ∧ BookAt C H b ws ∧ Watches ws ∧ Lt.Wd 40 z ∧ H q = some (.tup (natV P)) ∧ Mp.ZigX (Mw.Adj ws z) z.length 0 P ∧ ∀ (p : Addr) H', StepsAt H' p (stepsOf z P) → Same H H' → H p = none → Q (.ref p) H'
def CalmRule (H H' : Hp) (ws : List Str) (z : Str) (r : V) : Prop := (r = .non ∧ ¬ Mw.Told ws z) ∨ ∃ (q : Addr) (P : List Nat), r = .ref q ∧ StepsAt H' q (stepsOf z P) ∧ H q = none ∧ Mk.Gc (Mw.Adj ws z) z.length 0 true P
def sp_calm_rule (K : PySem.W.Frag) (C : Addr) : Sp := fun vs H Q _ => ∃ (a : Addr) (ws : List Str) (z : Str), vs = [.ref a, .str z] ∧ BookAt C H a ws ∧ Watches ws ∧ Lt.Wd 40 z ∧ ∀ (r : V) H', Same H H' → CalmRule H H' ws z r → Q r H'
def sp_is_rule (K : PySem.W.Frag) (C : Addr) : Sp := fun vs H Q _ => ∃ (b q : Addr) (ws : List Str) (z : Str) (P : List Nat), vs = [.ref b, .str z, .ref q] ∧ BookAt C H b ws ∧ Watches ws ∧ Lt.Wd 40 z ∧ StepsAt H q (stepsOf z P) ∧ Mp.ZigX (Mw.Adj ws z) z.length 0 P ∧ ∀ H', Same H H' → Q (.bl true) H'
theorem adj_irr {ws : List Str} {z : Str} (L : Watches ws) : ∀ i j, Mw.Adj ws z i j → i ≠ j := fun i j ⟨W, m, e⟩ q => by
  have := (L.ok W m).l0
  rcases e with ⟨_, e⟩ | ⟨_, e⟩ <;> omega
theorem ok_is_step (T : Txt w K mg) : FnOk P w K mg base CX0 3 T.f_is_step T.fd_is_step ["thing"] (sp_is_step K) := by
  refine T.F_is_step.ok sc_is_step (fun vs H Q E h => ?_) (fun cdv A outer s H vs Q E hr h => ?_)
  · obtain ⟨r, s, rfl, _⟩ := h
    rfl
  · obtain ⟨r, s, rfl, gr, so, k⟩ := h
    refine ⟨_, (pss_cons (ps_if (PW.pt (pw_or (pt_not (pt_val (pe_callB (id := "isinstance") (r := rIsi K) call_isi (by rfl) T.n_isinstance (by decide +kernel) (pa_cons (pv 0) (pa_cons (pe_bltn (v := .ty "tuple") (u := .type "tuple") (by rfl) T.n_tuple (by decide +kernel) rfl) pa_nil))))) (pw_or1 (pt_cmpR op_ne (pe_callB (id := "len") (r := Rd.nLen K) Rd.c_len (by rfl) T.n_len (by decide +kernel) (pa_cons (pv 0) pa_nil)) pe_int (nomark _)))))
  (pss_one (ps_ret pe_bl))
  pss_nil)
  (pss_one (ps_ret (pe_and (pe_callB (id := "isinstance") (r := rIsi K) call_isi (by rfl) T.n_isinstance (by decide +kernel) (pa_cons (pe_ix (r := rIxT K) ix_tup (pv 0) pe_int (fun _ _ => rfl)) (pa_cons (pe_bltn (v := .ty "str") (u := .type "str") (by rfl) T.n_str (by decide +kernel) rfl) pa_nil))) (pe_and (pe_cmpR (op_in_kd T.D_OTHER) (pe_ix (r := rIxT K) ix_tup (pv 0) pe_int (fun _ _ => rfl)) (pe_glob (v := .ref T.q_OTHER) rfl T.m_OTHER rfl) (by rfl)) (pe_one (pe_call (ok_is_watch T) (hr.mono (by decide)) rfl T.g_is_watch T.F_is_watch.kp T.b_is_watch .nil pass0 (pa_cons (pe_ix (r := rIxT K) ix_tup (pv 0) pe_int (fun _ _ => rfl)) pa_nil)))))))), ?_⟩
    walk_at "rd"
    refine Rd.isi (Ru.ty_T (.of gr)) (by decide +kernel : kitB "tuple" "tuple" = some true) ?_
    walk_at "rd"
    refine Rd.len (.inr (.of gr)) ?_
    walk_at "rd"
    refine Rd.yes (by simp) ?_
    walk_at "rd"
    refine Rd.ixT (.of gr) rfl ?_
    walk_at "rd"
    refine Rd.isiStr ?_
    walk_at "rd"
    refine Rd.ixT (.of gr) rfl ?_
    walk_at "rd"
    have kin : ∃ r, PySem.W.nsIn K T.q_OTHER s.1 = some (some r) := by
      rcases so.way with e | e
      · exact ⟨_, by rw [e]; exact T.kv_OTHER_0⟩
      · exact ⟨_, by rw [e]; exact T.kv_OTHER_1⟩
    obtain ⟨u, ku⟩ := kin
    refine ⟨_, _, rfl, rfl, ku, ?_⟩
    walk_at "rd"
    refine Rd.yes rfl ?_
    walk_at "rd"
    refine Rd.ixT (.of gr) rfl ?_
    walk_at "rd"
    exact ⟨_, rfl, so.wd, k⟩
theorem ok_are_steps (T : Txt w K mg) : FnOk P w K mg base CX0 4 T.f_are_steps T.fd_are_steps ["thing"] (sp_are_steps K) := by
  refine T.F_are_steps.ok sc_are_steps (fun vs H Q E h => ?_) (fun cdv A outer s H vs Q E hr h => ?_)
  · obtain ⟨q, ss, rfl, _⟩ := h
    rfl
  · obtain ⟨q, ss, rfl, hs, ro, k⟩ := h
    refine ⟨_, (pss_cons (ps_if (PW.pt (pw_or (pt_not (pt_val (pe_callB (id := "isinstance") (r := rIsi K) call_isi (by rfl) T.n_isinstance (by decide +kernel) (pa_cons (pv 0) (pa_cons (pe_bltn (v := .ty "tuple") (u := .type "tuple") (by rfl) T.n_tuple (by decide +kernel) rfl) pa_nil))))) (pw_or1 (pt_not (pt_chain op_le op_le pe_int (pe_callB (id := "len") (r := Rd.nLen K) Rd.c_len (by rfl) T.n_len (by decide +kernel) (pa_cons (pv 0) pa_nil)) (pe_glob (v := .int 80) rfl T.m_MOST_STEPS ⟨_, rfl⟩))))))
  (pss_one (ps_ret pe_bl))
  pss_nil)
  (pss_cons (ps_if (pt_not (pt_val (pe_callB (id := "all") (r := rAll K) (cr_all rfl) (by rfl) T.n_all (by decide +kernel) (pa_cons (pe_lc (own := [("step", 1)]) (g := gName 1) (tt := tYes) rfl sc_are_steps.nd (pi_tup (pv 0)) (blkOk_by (own := [("step", 1)]) (N := ["thing", "step"]) (sc := defScope s_are_steps) (by decide +kernel)) (fun _ _ _ _ _ => (pg_name (i := 1) sc_are_steps.nd rfl (.inl rfl))) (fun _ _ _ _ _ => pts_nil) (fun _ _ _ _ _ => (pe_call (ok_is_step T) (hr.mono (by decide)) rfl T.g_is_step T.F_is_step.kp T.b_is_step .nil pass0 (pa_cons (pv 1) pa_nil)))) pa_nil))))
  (pss_one (ps_ret pe_bl))
  pss_nil)
  (pss_one (ps_ret (pe_and (pe_cmpR op_eq (pe_ix (r := rIxT K) ix_tup (pe_ix (r := rIxT K) ix_tup (pv 0) pe_int (fun _ _ => rfl)) pe_int (fun _ _ => rfl)) pe_str (nomark _)) (pe_one (pe_cmpR op_eq (pe_ix (r := rIxT K) ix_tup (pe_ix (r := rIxT K) ix_tup (pv 0) (pe_un un_neg pe_int) (fun _ _ => rfl)) pe_int (fun _ _ => rfl)) pe_str (nomark _)))))))), ?_⟩
    have l1 := ro.l1
    have l80 := ro.l80
    have hs0 := hs
    obtain ⟨rs, hq, rl, hR⟩ := hs.row
    walk_at "rd"
    refine Rd.isi (Ru.ty_T (.of hq)) (by decide +kernel : kitB "tuple" "tuple" = some true) ?_
    walk_at "rd"
    refine Rd.len (.inr (.of hq)) ?_
    rw [List.length_map, rl]
    walk_at "rd"
    refine Rd.yes (by omega) ?_
    walk_at "rd"
    refine Rd.yes (by omega) ?_
    walk_at "rd"
    refine ⟨⟨_, .of hq⟩, Rd.lcS walk_tup (fun _ s => .of (s _ _ hq)) (fun D i acc _ => acc = (List.replicate i true).map V.bl) (fun _ _ _ _ _ => rfl) ?_ ?_⟩
    · rintro D i x G _ acc nD hi hD sm rfl ⟨rfl, hx⟩
      rw [List.length_map, rl] at hi
      obtain ⟨r, hri, rfl⟩ := Rd.map_refG hx
      obtain ⟨s, es, gr⟩ := hR i r hri
      walk_at "rd"
      refine ⟨rfl, ?_⟩
      walk_at "rd"
      refine ⟨r, s, rfl, sm _ _ gr, ro.ok s (List.mem_of_getElem? es), fun G2 s2 => ?_⟩
      refine Rd.lcPush (s2 _ _ hD) nD (sm.trans s2) (by rw [List.length_map, List.length_replicate, sizeLine_eq]; omega) fun G _ _ => ?_
      rw [List.replicate_succ', List.map_append]
      rfl
    · rintro D acc G1 nD hD s1 rfl
      walk_at "rd"
      refine Rd.all (.of hD) ?_
      rw [show (List.replicate (rs.map V.ref).length true).all id = true by simp]
      obtain ⟨y0, e0⟩ := ro.first
      obtain ⟨y1, e1⟩ := ro.last
      have hq1 := s1 _ _ hq
      clear hD nD
      have r0 : rs[0]? = some (rs[0]'(by omega)) := List.getElem?_eq_getElem _
      have r1 : rs[ss.length - 1]? = some (rs[ss.length - 1]'(by omega)) := List.getElem?_eq_getElem _
      generalize rs[0]'(by omega) = a0 at r0
      generalize rs[ss.length - 1]'(by omega) = a1 at r1
      obtain ⟨s0, f0, g0⟩ := hR _ _ r0
      obtain ⟨s9, f1, g1⟩ := hR _ _ r1
      rw [e0] at f0
      rw [e1] at f1
      cases f0
      cases f1
      walk_at "rd"
      refine Rd.ixT (.of hq1) (atI_nat (j := 0) (by rw [List.getElem?_map, r0]; rfl)) ?_
      walk_at "rd"
      refine Rd.ixT (.of (s1 _ _ g0)) rfl ?_
      walk_at "rd"
      refine Rd.yes rfl ?_
      walk_at "rd"
      have la : (rs.map V.ref)[(rs.map V.ref).length - 1]? = some (.ref a1) := by rw [List.length_map, rl, List.getElem?_map, r1]; rfl
      refine Rd.ixT (.of hq1) (atI_lastG (by rw [List.getLast?_eq_getElem?]; exact la)) ?_
      walk_at "rd"
      refine Rd.ixT (.of (s1 _ _ g1)) rfl ?_
      walk_at "rd"
      exact k _ s1
theorem ok_check_steps (T : Txt w K mg) : FnOk P w K mg base CX0 5 T.f_check_steps T.fd_check_steps ["rule"] (sp_check_steps K) := by
  refine T.F_check_steps.ok sc_check_steps (fun vs H Q E h => ?_) (fun cdv A outer s H vs Q E hr h => ?_)
  · obtain ⟨q, ss, rfl, _⟩ := h
    rfl
  · obtain ⟨q, ss, rfl, hs, ro, k⟩ := h
    refine ⟨_, (pss_cons (ps_if (pt_not (pt_val (pe_call (ok_are_steps T) (hr.mono (by decide)) rfl T.g_are_steps T.F_are_steps.kp T.b_are_steps .nil pass0 (pa_cons (pv 0) pa_nil))))
  (pss_one ps_never)
  pss_nil)
  (pss_one (ps_ret (pv 0)))), ?_⟩
    walk_at "rd"
    refine ⟨q, ss, rfl, hs, ro, fun H1 s1 => ?_⟩
    walk_at "rd"
    exact k _ s1
theorem ok_calm_rule (T : Txt w K mg) : FnOk P w K mg base CX0 6 T.f_calm_rule T.fd_calm_rule ["book", "word"] (sp_calm_rule K T.C_Book) := by
  refine T.F_calm_rule.ok sc_calm_rule (fun vs H Q E h => ?_) (fun cdv A outer s H vs Q E hr h => ?_)
  · obtain ⟨a, ws, z, rfl, _⟩ := h
    rfl
  · obtain ⟨a, ws, z, rfl, hB, L, hz, k⟩ := h
    refine ⟨_, (pss_cons (ps_expr (pe_call (ok_check_book T) (hr.mono (by decide)) rfl T.g_check_book T.F_check_book.kp T.b_check_book .nil pass0 (pa_cons (pv 0) pa_nil)))
  (pss_cons (ps_expr (pe_call (ok_check_word T) (hr.mono (by decide)) rfl T.g_check_word T.F_check_word.kp T.b_check_word .nil pass0 (pa_cons (pv 1) pa_nil)))
  (pss_cons (ps_set (i := 2) sc_calm_rule.nd rfl (.inl rfl) (pe_call (ok_calmest T) (hr.mono (by decide)) rfl T.g_calmest T.F_calmest.kp T.b_calmest .nil pass0 (pa_cons (pv 0) (pa_cons (pv 1) pa_nil))))
  (pss_one (ps_ret (pe_ifExp (pt_cmpR op_isN (pv 2) pe_non (nomark _)) pe_non (pe_call (ok_steps_between T) (hr.mono (by decide)) rfl T.g_steps_between T.F_steps_between.kp T.b_steps_between .nil pass0 (pa_cons (pv 1) (pa_cons (pv 2) pa_nil))))))))), ?_⟩
    have z0 := hz.l0
    have z1 := hz.l1
    walk_at "rd"
    refine ⟨a, ws, rfl, hB, ?_⟩
    walk_at "rd"
    refine ⟨z, rfl, hz, fun H1 s1 => ?_⟩
    walk_at "rd"
    refine ⟨a, ws, z, rfl, hB.same s1, L, hz, fun r H2 s2 cm => ?_⟩
    have s12 := s1.trans s2
    rcases cm with ⟨rfl, nt⟩ | ⟨q, P, rfl, hq, nq, g⟩
    · walk_at "go"
      exact k _ _ s12 (.inl ⟨rfl, nt⟩)
    · have zx := Mp.gc_zig (adj_irr L) g
      have p2 := zx.len (by omega)
      have pz := zig_few zx
      walk_at "go"
      refine ⟨q, z, P, rfl, hq, fun e => by rw [e] at p2; simp at p2, by omega, by omega, fun p H3 hp s3 np => ?_⟩
      exact k _ _ (s12.trans s3) (.inr ⟨p, P, rfl, hp, s12.free np, g⟩)
end
end W

namespace W
open PySem PySem.Spec PyProof.Rows L2
section
variable {P : Program} {w : World} {K : PySem.W.Frag} {mg : Str → Option Value} {base : Heap}
/-! ### sayings as lists of signs -/
def placeL : Nat → List Nat
  | 0 => [120]
  | k + 1 => 112 :: TL.numL (k + 1)
def rowL (s : Str × Str) (k : Nat) : List Nat :=
  if s.1 = ("on" : Str) then [115, 111, 109, 101, 32] ++ placeL (k + 1) ++ [58, 32] ++ TL.tl s.2 ++ [40] ++ (placeL k ++ [44, 32] ++ placeL (k + 1) ++ [41]) ++ [32, 97, 110, 100, 32]
  else [97, 108, 108, 32] ++ placeL (k + 1) ++ [58, 32] ++ ([105, 102, 32] ++ (TL.tl s.2 ++ [40] ++ (placeL (k + 1) ++ [44, 32] ++ placeL k ++ [41]) ++ [32, 116, 104, 101, 110, 32]))
def endL (s : Str × Str) (k : Nat) : List Nat := TL.tl s.2 ++ [40] ++ (placeL k ++ [44, 32, 121, 41])
def sayL : List (Str × Str) → Nat → List Nat
  | [], _ => []
  | [s], k => endL s k
  | s :: s' :: r, k => rowL s k ++ sayL (s' :: r) (k + 1)
theorem num_len {k : Nat} (h : k < 100) : (TL.numL k).length ≤ 2 := TL.numL_len (by decide) (by omega)
theorem place_len {k : Nat} (h : k < 100) : (placeL k).length ≤ 3 := by
  cases k with
  | zero => decide
  | succ k =>
    have := num_len h
    show (TL.numL (k + 1)).length + 1 ≤ 3
    omega
theorem tlE (x : Str) : x.length = (TL.tl x).length := TL.len_tl x
theorem log_small {i : Int} (h : i.natAbs < 1000) : i.natAbs.log2 < 1920 := by
  have : i.natAbs.log2 ≤ i.natAbs := Nat.log2_le_self _
  omega
theorem jC {σ : L2.St} {H : Hp} {ts : List TE} {acc x : Str} {m : Nat} {R : Str → Hp → Prop} (ha : acc.length ≤ m) (hx : x.length ≤ 20) (hm : m ≤ 1000) (q : (acc ++ x).length ≤ m + 20 → tJs ts (acc ++ x) σ H R) : tJs (tC (.str x) :: ts) acc σ H R := by
  have e : (acc ++ x).length = acc.length + x.length := Array.size_append
  exact ⟨x, rfl, by rw [sizeLine_eq]; omega, q (by omega)⟩
theorem jV {σ : L2.St} {H : Hp} {ts : List TE} {acc x : Str} {i m : Nat} {R : Str → Hp → Prop} (g : σ[i]? = some (some (.str x))) (ha : acc.length ≤ m) (hx : x.length ≤ 20) (hm : m ≤ 1000) (q : (acc ++ x).length ≤ m + 20 → tJs ts (acc ++ x) σ H R) : tJs (tFmt (tVar i) :: ts) acc σ H R := by
  have e : (acc ++ x).length = acc.length + x.length := Array.size_append
  exact ⟨_, g, .inl ⟨x, rfl, by rw [sizeLine_eq]; omega, x, rfl, by rw [sizeLine_eq]; omega, q (by omega)⟩⟩
theorem jI {σ : L2.St} {H : Hp} {ts : List TE} {acc : Str} {i m k : Nat} {R : Str → Hp → Prop} (g : σ[i]? = some (some (.int (k : Nat)))) (hk : k < 100) (ha : acc.length ≤ m) (hm : m ≤ 1000) (q : (acc ++ Str.ofString (toString ((k : Nat) : Int))).length ≤ m + 20 → tJs ts (acc ++ Str.ofString (toString ((k : Nat) : Int))) σ H R) : tJs (tFmt (tVar i) :: ts) acc σ H R := by
  have e : (acc ++ Str.ofString (toString ((k : Nat) : Int))).length = acc.length + (Str.ofString (toString ((k : Nat) : Int))).length := Array.size_append
  have l := num_len hk
  have l2 := tlE (Str.ofString (toString ((k : Nat) : Int)))
  rw [TL.tl_num k] at l2
  exact ⟨_, g, .inr ⟨_, rfl, log_small (by omega), _, rfl, by rw [sizeLine_eq]; omega, q (by omega)⟩⟩
theorem jE {σ : L2.St} {H : Hp} {te : TE} {ts : List TE} {acc : Str} {m k : Nat} {R : Str → Hp → Prop} (g : ∀ Q : VK, Q (.int (k : Nat)) H → te σ H Q) (hk : k < 100) (ha : acc.length ≤ m) (hm : m ≤ 1000) (q : (acc ++ Str.ofString (toString ((k : Nat) : Int))).length ≤ m + 20 → tJs ts (acc ++ Str.ofString (toString ((k : Nat) : Int))) σ H R) : tJs (tFmt te :: ts) acc σ H R := by
  have e : (acc ++ Str.ofString (toString ((k : Nat) : Int))).length = acc.length + (Str.ofString (toString ((k : Nat) : Int))).length := Array.size_append
  have l := num_len hk
  have l2 := tlE (Str.ofString (toString ((k : Nat) : Int)))
  rw [TL.tl_num k] at l2
  exact g _ (.inr ⟨_, rfl, log_small (by omega), _, rfl, by rw [sizeLine_eq]; omega, q (by omega)⟩)
theorem jT {σ : L2.St} {H : Hp} {te : TE} {ts : List TE} {acc x : Str} {m : Nat} {R : Str → Hp → Prop} (g : ∀ Q : VK, Q (.str x) H → te σ H Q) (ha : acc.length ≤ m) (hx : x.length ≤ 20) (hm : m ≤ 1000) (q : (acc ++ x).length ≤ m + 20 → tJs ts (acc ++ x) σ H R) : tJs (tFmt te :: ts) acc σ H R := by
  have e : (acc ++ x).length = acc.length + x.length := Array.size_append
  exact g _ (.inl ⟨x, rfl, by rw [sizeLine_eq]; omega, x, rfl, by rw [sizeLine_eq]; omega, q (by omega)⟩)
theorem t_p : TL.tl ("p" : Str) = [112] := by decide +kernel
theorem t_somep : TL.tl ("some p" : Str) = [115, 111, 109, 101, 32, 112] := by decide +kernel
theorem t_allp : TL.tl ("all p" : Str) = [97, 108, 108, 32, 112] := by decide +kernel
theorem t_colon : TL.tl (": " : Str) = [58, 32] := by decide +kernel
theorem t_colif : TL.tl (": if " : Str) = [58, 32, 105, 102, 32] := by decide +kernel
theorem t_open : TL.tl ("(" : Str) = [40] := by decide +kernel
theorem t_openp : TL.tl ("(p" : Str) = [40, 112] := by decide +kernel
theorem t_commap : TL.tl (", p" : Str) = [44, 32, 112] := by decide +kernel
theorem t_comma : TL.tl (", " : Str) = [44, 32] := by decide +kernel
theorem t_cland : TL.tl (") and " : Str) = [41, 32, 97, 110, 100, 32] := by decide +kernel
theorem t_clthen : TL.tl (") then " : Str) = [41, 32, 116, 104, 101, 110, 32] := by decide +kernel
theorem t_commay : TL.tl (", y)" : Str) = [44, 32, 121, 41] := by decide +kernel
theorem t_empty : TL.tl Str.empty = [] := rfl
def sp_clause (K : PySem.W.Frag) : Sp := fun vs H Q _ => ∃ (s : Str × Str) (pl : Str) (k : Nat), vs = [.str s.1, .str s.2, .str pl, .int ((k + 1 : Nat) : Int)] ∧ TL.tl pl = placeL k ∧ k < 90 ∧ s.2.length ≤ 12 ∧ ∀ y : Str, TL.tl y = rowL s k → Q (.str y) H
def sp_saying_of (K : PySem.W.Frag) : Sp := fun vs H Q _ => ∃ (q : Addr) (ss : List (Str × Str)), vs = [.ref q] ∧ StepsAt H q ss ∧ RuleOk ss ∧ ∀ (y : Str) H', TL.tl y = sayL ss 0 → Same H H' → Q (.str y) H'
def sp_saying (K : PySem.W.Frag) : Sp := fun vs H Q _ => ∃ (q : Addr) (ss : List (Str × Str)), vs = [.ref q] ∧ StepsAt H q ss ∧ RuleOk ss ∧ ∀ (y : Str) H', TL.tl y = sayL ss 0 → Same H H' → Q (.str y) H'
theorem ok_clause (T : Txt w K mg) : FnOk P w K mg base CX0 1 T.f_clause T.fd_clause ["way", "watch", "place", "at"] (sp_clause K) := by
  refine T.F_clause.ok sc_clause (fun vs H Q E h => ?_) (fun cdv A outer s H vs Q E hr h => ?_)
  · obtain ⟨s, pl, k, rfl, _⟩ := h
    rfl
  · obtain ⟨s, pl, k, rfl, ep, hk, hw, q⟩ := h
    refine ⟨_, (pss_cons (ps_if (pt_cmpR op_eq (pv 0) pe_str (nomark _))
  (pss_one (ps_ret (pe_joined (.cons pe_str (.cons (pe_fmt (pv 3)) (.cons pe_str (.cons (pe_fmt (pv 1)) (.cons pe_str (.cons (pe_fmt (pv 2)) (.cons pe_str (.cons (pe_fmt (pv 3)) (.cons pe_str .nil))))))))))))
  pss_nil)
  (pss_one (ps_ret (pe_joined (.cons pe_str (.cons (pe_fmt (pv 3)) (.cons pe_str (.cons (pe_fmt (pv 1)) (.cons pe_str (.cons (pe_fmt (pv 3)) (.cons pe_str (.cons (pe_fmt (pv 2)) (.cons pe_str .nil))))))))))))), ?_⟩
    have e : TL.tl (Str.ofString (toString (((k + 1 : Nat) : Nat) : Int))) = TL.numL (k + 1) := TL.tl_num (k + 1)
    have nl := num_len (k := k + 1) (by omega)
    have pl3 := place_len (k := k) (by omega)
    walk_at "rd"
    have pll : pl.length ≤ 20 := by rw [tlE, ep]; omega
    have wl : s.2.length ≤ 20 := by omega
    by_cases c : s.1 = ("on" : Str)
    · refine Rd.yes c ?_
      walk_at "rd"
      refine jC (m := 0) (Nat.le_refl _) (by decide +kernel) (by decide) fun a1 => jI (k := k + 1) rfl (by omega) a1 (by decide) fun a2 => jC a2 (by decide +kernel) (by decide) fun a3 => jV (x := s.2) rfl a3 wl (by decide) fun a4 => jC a4 (by decide +kernel) (by decide) fun a5 => jV (x := pl) rfl a5 pll (by decide) fun a6 => jC a6 (by decide +kernel) (by decide) fun a7 => jI (k := k + 1) rfl (by omega) a7 (by decide) fun a8 => jC a8 (by decide +kernel) (by decide) fun a9 => ?_
      refine q _ ?_
      rw [rowL, if_pos c]
      simp only [TL.tl_append, e, ep, t_somep, t_colon, t_open, t_commap, t_cland, t_empty, placeL]
      simp
    · refine Rd.no c ?_
      walk_at "rd"
      refine jC (m := 0) (Nat.le_refl _) (by decide +kernel) (by decide) fun a1 => jI (k := k + 1) rfl (by omega) a1 (by decide) fun a2 => jC a2 (by decide +kernel) (by decide) fun a3 => jV (x := s.2) rfl a3 wl (by decide) fun a4 => jC a4 (by decide +kernel) (by decide) fun a5 => jI (k := k + 1) rfl (by omega) a5 (by decide) fun a6 => jC a6 (by decide +kernel) (by decide) fun a7 => jV (x := pl) rfl a7 pll (by decide) fun a8 => jC a8 (by decide +kernel) (by decide) fun a9 => ?_
      refine q _ ?_
      rw [rowL, if_neg c]
      simp only [TL.tl_append, e, ep, t_allp, t_colif, t_openp, t_comma, t_clthen, t_empty, placeL]
      simp
theorem cut_butlast {xs : List V} (h : 1 ≤ xs.length) : cutV xs none (some (-1)) = xs.dropLast ∧ ¬ (HT.sIx xs.length 0 none = 0 ∧ HT.sIx xs.length xs.length (some (-1)) = xs.length) := by
  have e : HT.sIx xs.length xs.length (some (-1)) = xs.length - 1 := by
    unfold HT.sIx
    simp
    omega
  have e2 : HT.sIx xs.length 0 none = 0 := rfl
  refine ⟨?_, fun q => by rw [e] at q; omega⟩
  unfold cutV
  rw [e, e2, List.drop_zero, Nat.sub_zero, List.dropLast_eq_take]
theorem say_rows : ∀ (ss : List (Str × Str)) (k : Nat) (hs : ss ≠ []), sayL ss k = ((ss.dropLast.zipIdx k).map fun x => rowL x.1 x.2).flatten ++ endL (ss.getLast hs) (k + (ss.length - 1))
  | [], _, h => absurd rfl h
  | [s], k, _ => by simp [sayL]
  | s :: s' :: r, k, _ => by
    rw [sayL, say_rows (s' :: r) (k + 1) (by simp)]
    simp only [List.dropLast_cons₂, List.zipIdx_cons, List.map_cons, List.flatten_cons, List.append_assoc, List.getLast_cons_cons, List.length_cons]
    rw [show k + 1 + (r.length + 1 - 1) = k + (r.length + 1 + 1 - 1) by omega]
theorem joinL_nil : ∀ ys : List (List Nat), TL.joinL [] ys = ys.flatten
  | [] => rfl
  | [p] => by simp [TL.joinL]
  | p :: q :: r => by
    show p ++ ([] ++ TL.joinL [] (q :: r)) = _
    rw [joinL_nil (q :: r)]
    simp
theorem row_le {s : Str × Str} {k : Nat} (hk : k < 90) (hw : s.2.length ≤ 12) : (rowL s k).length ≤ 50 := by
  have a := place_len (k := k) (by omega)
  have b := place_len (k := k + 1) (by omega)
  rw [tlE] at hw
  unfold rowL
  split <;> simp only [List.length_append, List.length_cons, List.length_nil] <;> omega
theorem ok_saying_of (T : Txt w K mg) : FnOk P w K mg base CX0 2 T.f_saying_of T.fd_saying_of ["steps"] (sp_saying_of K) := by
  refine T.F_saying_of.ok sc_saying_of (fun vs H Q E h => ?_) (fun cdv A outer s H vs Q E hr h => ?_)
  · obtain ⟨q, ss, rfl, _⟩ := h
    rfl
  · obtain ⟨q, ss, rfl, hS, hR, k⟩ := h
    refine ⟨_, (pss_cons (ps_set (i := 1) sc_saying_of.nd rfl (.inl rfl) pe_str)
  (pss_cons (ps_set (i := 2) sc_saying_of.nd rfl (.inl rfl) (pe_lst pa_nil))
  (pss_cons (ps_for PassesOwn.never rfl (Ru.pi_enumT (by rfl) T.n_enumerate (pa_cons (pe_slice (r := rSlT K) sl_tup (pv 0) po_none (po_some (pe_un un_neg pe_int))) pa_nil)) (pg_tup rfl (pgs_cons (pg_name (i := 3) sc_saying_of.nd rfl (.inl rfl)) (pgs_cons (pg_name (i := 4) sc_saying_of.nd rfl (.inl rfl)) pgs_nil)))
  (pss_cons (ps_expr (pe_bm PySem.F.plainAttrs_list PySem.F.slot_list_append PySem.F.type_list_append mt_append (pv 2) (pa_cons (pe_call (ok_clause T) (hr.mono (by decide)) rfl T.g_clause T.F_clause.kp T.b_clause .nil pass0 (pa_cons (pe_ix (r := rIxT K) ix_tup (pv 4) pe_int (fun _ _ => rfl)) (pa_cons (pe_ix (r := rIxT K) ix_tup (pv 4) pe_int (fun _ _ => rfl)) (pa_cons (pv 1) (pa_cons (pe_op op_add (pv 3) pe_int) pa_nil))))) pa_nil)))
  (pss_one (ps_set (i := 1) sc_saying_of.nd rfl (.inl rfl) (pe_joined (.cons pe_str (.cons (pe_fmt (pe_op op_add (pv 3) pe_int)) .nil)))))))
  (pss_one (ps_ret (pe_op Rd.o_addS (pe_join pe_str (pv 2)) (pe_joined (.cons (pe_fmt (pe_ix (r := rIxT K) ix_tup (pe_ix (r := rIxT K) ix_tup (pv 0) (pe_un un_neg pe_int) (fun _ _ => rfl)) pe_int (fun _ _ => rfl))) (.cons pe_str (.cons (pe_fmt (pv 1)) (.cons pe_str .nil))))))))))), ?_⟩
    have l1 := hR.l1
    have l80 := hR.l80
    obtain ⟨rs, gq, rl, ra⟩ := hS
    walk_at "rd"
    refine ⟨Nat.zero_le _, Rd.new fun f G1 nf gf s1 => ?_⟩
    walk_at "rd"
    refine Rd.forS ?_
    unfold Ru.iEnumT
    walk_at "rd"
    have rl' : (rs.map V.ref).length = ss.length := by rw [List.length_map, rl]
    obtain ⟨c1, c2⟩ := cut_butlast (xs := rs.map V.ref) (by omega)
    refine Rw.slT (.of (s1 _ _ gq)) c2 (Rd.new fun q2 G2 nq2 gq2 s2 => ?_)
    rw [c1] at gq2
    have ql : ((rs.map V.ref).dropLast).length = ss.length - 1 := by rw [List.length_dropLast, rl']
    refine ⟨q2, _, rfl, .of gq2, ?_⟩
    have gf2 := s2 _ _ gf
    have s12 := s1.trans s2
    refine Ru.for_enumT (K := K) (a := q2) (xs := (rs.map V.ref).dropLast) (fun i σ H' => ∃ (pl : Str) (ys : List Str) (o3 o4 : Option V), σ = [some (.ref q), some (.str pl), some (.ref f), o3, o4] ∧ H' f = some (.lst (ys.map V.str)) ∧ (∀ b, b ≠ f → ∀ o, G2 b = some o → H' b = some o) ∧ TL.tl pl = placeL i ∧ ys.map TL.tl = (((ss.take i).zipIdx 0).map fun x => rowL x.1 x.2) ∧ ys.length = i ∧ ∀ y ∈ ys, y.length ≤ 50)
      ⟨_, [], _, _, rfl, gf2, fun b _ o h => h, by decide +kernel, rfl, rfl, fun y m => (nomatch m)⟩ ?_ ?_ ?_
    · rintro i σ H' _ ⟨pl, ys, o3, o4, _, _, fr, _⟩
      exact .of (fr _ (ne_of_none gf nq2).symm _ gq2)
    · rintro i x _ H3 t hx ⟨pl, ys, o3, o4, rfl, gf3, fr, ep, ey, yl, y50⟩ nt
      have il : i < ss.length - 1 := by rw [← ql]; exact (List.getElem?_eq_some_iff.mp hx).1
      rw [List.getElem?_dropLast, if_pos (by omega), List.getElem?_map] at hx
      obtain ⟨r, hr', rfl⟩ := Option.map_eq_some_iff.mp hx
      have hsi : ss[i]? = some ss[i] := List.getElem?_eq_getElem (by omega)
      generalize ss[i] = sx at hsi
      have sok := hR.ok _ (List.mem_of_getElem? hsi)
      have gr := s12 _ _ (ra i r _ hr' hsi)
      have rf : r ≠ f := fun e => by rw [e, gf2] at gr; cases gr
      have sT := Rd.same_upd (o := .tup [.int (i : Nat), .ref r]) nt
      have gr3 := sT _ _ (fr r rf _ gr)
      have gf3' := sT _ _ gf3
      have gt3 : upd H3 t (.tup [.int (i : Nat), .ref r]) t = _ := upd_same
      generalize upd H3 t (.tup [.int (i : Nat), .ref r]) = H4 at sT gr3 gf3' gt3
      refine Rd.tupT (.of gt3) rfl ?_
      walk_at "rd"
      refine Rd.tyL (.of gf3') ?_
      walk_at "rd"
      refine Rd.ixT (.of gr3) rfl ?_
      walk_at "rd"
      refine Rd.ixT (.of gr3) rfl ?_
      walk_at "rd"
      refine ⟨sx, pl, i, rfl, ep, by omega, by have := sok.wd.l1; omega, fun y ey' => ?_⟩
      walk_at "rd"
      refine Rd.app gf3' (by rw [List.length_map, sizeLine_eq]; omega) fun G5 g5 off5 => ?_
      walk_at "rd"
      refine jC (m := 0) (Nat.le_refl _) (by decide +kernel) (by decide) fun a1 => jE (k := i + 1) (fun Q q => ?_) (by omega) a1 (by decide) fun a2 => ?_
      · walk_at "rd"
        exact q
      walk_at "rd"
      refine ⟨_, ys ++ [y], _, _, rfl, by rw [List.map_append]; exact g5, fun b nb o e => ?_, ?_, ?_, by rw [List.length_append, yl]; rfl, fun z m => ?_⟩
      · rw [off5 b nb]
        exact sT _ _ (fr b nb o e)
      · rw [TL.tl_append, TL.tl_append, t_p, TL.tl_num]
        rfl
      · rw [List.map_append, ey, Rd.take_snoc hsi, List.zipIdx_append, List.map_append, List.length_take, show min i ss.length = i by omega]
        show _ ++ [TL.tl y] = _ ++ [rowL sx (0 + i)]
        rw [ey', Nat.zero_add]
      · rcases List.mem_append.mp m with m | m
        · exact y50 z m
        · rw [List.mem_singleton.mp m, tlE, ey']
          exact row_le (by omega) (by have := sok.wd.l1; omega)
    · rintro _ H3 ⟨pl, ys, o3, o4, rfl, gf3, fr, ep, ey, yl, y50⟩
      rw [ql] at ep ey yl
      walk_at "rd"
      have e0 : (Str.ofString "").length = 0 := by decide +kernel
      have sum : ∀ zs : List Str, (∀ y ∈ zs, y.length ≤ 50) → (zs.map (·.length)).sum ≤ 50 * zs.length := by
        intro zs
        induction zs with
        | nil => intro _; exact Nat.le_refl _
        | cons z zs ih =>
          intro h
          have h1 := h z (List.mem_cons_self ..)
          have h2 := ih fun y m => h y (List.mem_cons_of_mem _ m)
          rw [List.map_cons, List.sum_cons, List.length_cons]
          omega
      have ysum := sum ys y50
      refine ⟨_, f, ys, rfl, rfl, .inl (.of gf3), by rw [e0]; omega, ?_⟩
      have jt : TL.tl (Txt.join "" ys) = (((ss.take (ss.length - 1)).zipIdx 0).map fun x => rowL x.1 x.2).flatten := by
        rw [TL.join_eq, TL.tl_join, show TL.tl (Str.ofString "") = [] by decide +kernel, joinL_nil, ey]
      have jl : (Txt.join "" ys).length ≤ 4000 := by
        rw [tlE, jt, ← ey, List.length_flatten, List.map_map, show (List.length ∘ TL.tl) = fun y : Str => y.length from funext fun y => (tlE y).symm]
        omega
      generalize Txt.join (Str.ofString "") ys = jn at jt jl
      have hs : ss ≠ [] := fun e => by rw [e] at l1; exact absurd l1 (by decide)
      have hr' : rs[ss.length - 1]? = some (rs[ss.length - 1]'(by omega)) := List.getElem?_eq_getElem (by omega)
      generalize (rs[ss.length - 1]'(by omega)) = rr at hr'
      have hsl : ss[ss.length - 1]? = some (ss.getLast hs) := by rw [List.getLast_eq_getElem]; exact List.getElem?_eq_getElem (by omega)
      have gr := s12 _ _ (ra _ _ _ hr' hsl)
      have rf : rr ≠ f := fun e => by rw [e, gf2] at gr; cases gr
      have gr3 := fr rr rf _ gr
      have gq0 := s12 _ _ gq
      have qf : q ≠ f := fun e => by rw [e, gf2] at gq0; cases gq0
      have gq3 := fr q qf _ gq0
      have sok := hR.ok _ (List.mem_of_getElem? hsl)
      have w12 := sok.wd.l1
      have pl3 := place_len (k := ss.length - 1) (by omega)
      have pll : pl.length ≤ 20 := by rw [tlE, ep]; omega
      dsimp only
      refine jT (m := 0) (x := (ss.getLast hs).2) (fun Q q => ?_) (Nat.le_refl _) (by omega) (by decide) fun a1 => jC a1 (by decide +kernel) (by decide) fun a2 => jV (x := pl) rfl a2 pll (by decide) fun a3 => jC a3 (by decide +kernel) (by decide) fun a4 => ?_
      · walk_at "rd"
        refine Rd.ixT (.of gq3) (atI_lastG (v := .ref rr) (by rw [List.getLast?_map, List.getLast?_eq_getElem?, rl, hr']; rfl)) ?_
        walk_at "rd"
        refine Rd.ixT (.of gr3) rfl ?_
        exact q
      have te : TL.tl (Str.empty ++ (ss.getLast hs).2 ++ Str.ofString "(" ++ pl ++ Str.ofString ", y)") = endL (ss.getLast hs) (ss.length - 1) := by
        rw [TL.tl_append, TL.tl_append, TL.tl_append, TL.tl_append, t_open, t_commay, t_empty, ep]
        simp [endL]
      generalize Str.empty ++ (ss.getLast hs).2 ++ Str.ofString "(" ++ pl ++ Str.ofString ", y)" = out at a4 te
      show Rd.nAddS (.str jn) (.str out) H3 Q
      refine ⟨jn, out, rfl, rfl, by rw [sizeLine_eq]; omega, ?_⟩
      refine k _ _ ?_ fun b o e => fr b (ne_of_none e nf) o (s12 _ _ e)
      rw [TL.tl_append, jt, te, say_rows ss 0 hs, List.dropLast_eq_take, Nat.zero_add]
theorem ok_saying (T : Txt w K mg) : FnOk P w K mg base CX0 6 T.f_saying T.fd_saying ["rule"] (sp_saying K) := by
  refine T.F_saying.ok sc_saying (fun vs H Q E h => ?_) (fun cdv A outer s H vs Q E hr h => ?_)
  · obtain ⟨q, ss, rfl, _⟩ := h
    rfl
  · obtain ⟨q, ss, rfl, hS, hR, k⟩ := h
    refine ⟨_, (pss_cons (ps_expr (pe_call (ok_check_steps T) (hr.mono (by decide)) rfl T.g_check_steps T.F_check_steps.kp T.b_check_steps .nil pass0 (pa_cons (pv 0) pa_nil)))
  (pss_one (ps_ret (pe_call (ok_saying_of T) (hr.mono (by decide)) rfl T.g_saying_of T.F_saying_of.kp T.b_saying_of .nil pass0 (pa_cons (pv 0) pa_nil))))), ?_⟩
    walk_at "rd"
    refine ⟨q, ss, rfl, hS, hR, fun H1 s1 => ?_⟩
    walk_at "rd"
    refine ⟨q, ss, rfl, hS.same s1, hR, fun y H2 e s2 => ?_⟩
    exact k y H2 e (s1.trans s2)

end
end W

namespace W
open PySem PySem.Spec PyProof.Rows L2
section
variable {P : Program} {w : World} {K : PySem.W.Frag} {mg : Str → Option Value} {base : Heap}
/-! ### sayings read -/
def cwOf (s : Str × Str) : Str × Str := (if s.1 = ("on" : Str) then "some" else "all", s.2)
def CRows (H : Hp) (L : Addr) (rows : List (Str × Str)) : Prop := ∃ rs : List Addr, H L = some (.lst (rs.map V.ref)) ∧ rs.length = rows.length ∧ ∀ (i : Nat) (r : Addr) (s : Str × Str), rs[i]? = some r → rows[i]? = some s → H r = some (.tup [.str s.1, .str s.2])
theorem CRows.same {H H' : Hp} {L : Addr} {rows : List (Str × Str)} (s : Same H H') (h : CRows H L rows) : CRows H' L rows := let ⟨rs, h1, h2, h3⟩ := h; ⟨rs, s _ _ h1, h2, fun i r x e1 e2 => s _ _ (h3 i r x e1 e2)⟩
theorem CRows.push {H G : Hp} {L r : Addr} {rows : List (Str × Str)} {s : Str × Str} (h : CRows H L rows) (hr : H r = some (.tup [.str s.1, .str s.2])) (rL : r ≠ L) (g : ∀ xs, H L = some (.lst xs) → G L = some (.lst (xs ++ [.ref r]))) (off : ∀ b, b ≠ L → G b = H b) : CRows G L (rows ++ [s]) := by
  obtain ⟨rs, h1, h2, h3⟩ := h
  refine ⟨rs ++ [r], by rw [List.map_append]; exact g _ h1, by rw [List.length_append, List.length_append, h2]; rfl, fun i q x e1 e2 => ?_⟩
  have nL : ∀ {q : Addr} {xs : List V}, H q = some (.tup xs) → q ≠ L := fun e n => by rw [n, h1] at e; cases e
  by_cases il : i < rs.length
  · rw [List.getElem?_append_left il] at e1
    rw [List.getElem?_append_left (by omega)] at e2
    have := h3 i q x e1 e2
    rw [off q (nL this)]
    exact this
  · rw [List.getElem?_append_right (by omega)] at e1 e2
    rw [← h2] at e2
    cases hj : i - rs.length with
    | zero =>
      rw [hj] at e1 e2
      cases e1
      cases e2
      rw [off r rL]
      exact hr
    | succ j => rw [hj] at e1; simp at e1
def sp_l_clauses (K : PySem.W.Frag) : Sp := fun vs H Q _ => ∃ (y : Str) (ss : List (Str × Str)) (s : Str × Str), vs = [.str y] ∧ TL.tl y = sayL ss 0 ∧ RuleOk ss ∧ ss[ss.length - 1]? = some s ∧ ∀ (p L : Addr) H', H' p = some (.tup [.ref L, .str s.2]) → CRows H' L (ss.dropLast.map cwOf) → Same H H' → Q (.ref p) H'
theorem partAt {y sep : Str} {S p q : List Nat} (es : TL.tl sep = S) (e : TL.tl y = p ++ (S ++ q)) (n : S ≠ []) (h : ∀ i, i < p.length → TL.pre S ((p ++ (S ++ q)).drop i) = false) : ∃ a b : Str, Txt.partition y sep = (a, sep, b) ∧ TL.tl a = p ∧ TL.tl b = q := by
  subst es
  refine ⟨⟨p.toArray⟩, ⟨q.toArray⟩, ?_, rfl, rfl⟩
  rw [TL.partition_par y sep n, e, TL.par_part n h]
  rfl
theorem partHd {y sep : Str} {s : Nat} {S p q : List Nat} (es : TL.tl sep = s :: S) (e : TL.tl y = p ++ (s :: S ++ q)) (h : s ∉ p) : ∃ a b : Str, Txt.partition y sep = (a, sep, b) ∧ TL.tl a = p ∧ TL.tl b = q := partAt es e (by simp) (TL.free_of h)
theorem pre_two {s c d : Nat} {S X : List Nat} (h : d ≠ c) : TL.pre (s :: c :: S) (s :: d :: X) = false := by
  cases hp : TL.pre (s :: c :: S) (s :: d :: X) with
  | false => rfl
  | true =>
    have e : (s :: d :: X).take (s :: c :: S).length = s :: c :: S := eq_of_beq hp
    simp at e
    exact absurd e.1 h
theorem partMid {y sep : Str} {s c d : Nat} {S A B q : List Nat} (es : TL.tl sep = s :: c :: S) (e : TL.tl y = (A ++ s :: d :: B) ++ (s :: c :: S ++ q)) (h : d ≠ c) (hA : s ∉ A) (hB : s ∉ d :: B) : ∃ a b : Str, Txt.partition y sep = (a, sep, b) ∧ TL.tl a = A ++ s :: d :: B ∧ TL.tl b = q := by
  refine partAt es e (by simp) fun i hi => ?_
  rw [List.length_append] at hi
  by_cases i1 : i < A.length
  · rw [List.append_assoc]
    exact TL.free_of hA i i1
  · by_cases i2 : i = A.length
    · rw [i2, List.append_assoc, List.drop_left]
      exact pre_two h
    · rw [show A ++ s :: d :: B = (A ++ [s]) ++ (d :: B) by simp, List.append_assoc, List.drop_append, List.drop_eq_nil_of_le (by simp; omega), List.nil_append]
      refine TL.free_of hB _ ?_
      simp only [List.length_append, List.length_cons, List.length_nil] at hi ⊢
      omega
theorem partG {z sep a m b : Str} {H : Hp} {Q : VK} (e : Txt.partition z sep = (a, m, b)) (n : (sep.length == 0) = false) (l : z.length ≤ 1000000) (k : ∀ (p : Addr) (G : Hp), H p = none → G p = some (.tup [.str a, .str m, .str b]) → Same H G → Q (.ref p) G) : Rf.PartQ (.str z) [.str sep] H Q := by
  refine ⟨z, sep, rfl, rfl, n, by rw [sizeLine_eq]; omega, Rd.new fun p G np gp s => ?_⟩
  rw [e] at gp
  exact k p G np gp s
theorem abc_sign {w : Str} (h : Lt.Let w) {s : Nat} (o : s < 97 ∨ 122 < s) : s ∉ TL.tl w := fun m => by
  have a : ∀ c ∈ Lt.Abc.cps.toList, 97 ≤ c ∧ c ≤ 122 := by decide +kernel
  have := a s (h s m)
  omega
theorem place_free {k s : Nat} (o : s < 48 ∨ (57 < s ∧ s ≠ 112 ∧ s ≠ 120)) : s ∉ placeL k := by
  cases k with
  | zero =>
    intro m
    have := List.mem_singleton.mp m
    omega
  | succ k =>
    intro m
    rcases List.mem_cons.mp m with m | m
    · omega
    · exact TL.numL_free (by omega) m
theorem say_len : ∀ (ss : List (Str × Str)) (k : Nat), (∀ s ∈ ss, s.2.length ≤ 12) → k + ss.length ≤ 90 → (sayL ss k).length ≤ 50 * ss.length
  | [], _, _, _ => Nat.zero_le _
  | [s], k, h, hk => by
    have a := place_len (k := k) (by simp at hk; omega)
    have b := h s (List.mem_cons_self ..)
    rw [tlE] at b
    show (endL s k).length ≤ 50
    unfold endL
    simp only [List.length_append, List.length_cons, List.length_nil]
    omega
  | s :: s' :: r, k, h, hk => by
    have a := row_le (s := s) (k := k) (by simp at hk; omega) (h s (List.mem_cons_self ..))
    have b := say_len (s' :: r) (k + 1) (fun t m => h t (List.mem_cons_of_mem _ m)) (by simp at hk ⊢; omega)
    show (rowL s k ++ sayL (s' :: r) (k + 1)).length ≤ _
    rw [List.length_append]
    simp only [List.length_cons] at b ⊢
    omega
theorem addQ {x y : Str} {H : Hp} {Q : VK} {m : Nat} (ha : x.length ≤ m) (hj : y.length ≤ 20) (hm : m ≤ 1000) (q : (x ++ y).length ≤ m + 20 → Q (.str (x ++ y)) H) : Rd.nAddS (.str x) (.str y) H Q := by
  have e : (x ++ y).length = x.length + y.length := Array.size_append
  exact ⟨x, y, rfl, rfl, by rw [sizeLine_eq]; omega, q (by omega)⟩
theorem nil_str {x : Str} (h : TL.tl x = []) : x = "" := TL.ext_tl (by rw [h]; decide +kernel)
theorem ok_l_clauses (T : Txt w K mg) : FnOk P w K mg base CX0 1 T.f_l_clauses T.fd_l_clauses ["_law_text"] (sp_l_clauses K) := by
  refine T.F_l_clauses.ok sc_l_clauses (fun vs H Q E h => ?_) (fun cdv A outer s H vs Q E hr h => ?_)
  · obtain ⟨y, ss, s, rfl, _⟩ := h
    rfl
  · obtain ⟨y, ss, sl, rfl, ey, hR, hl, k⟩ := h
    refine ⟨_, (pss_cons (ps_set (i := 1) sc_l_clauses.nd rfl (.inl rfl) (pe_lst pa_nil))
  (pss_cons (ps_set (i := 2) sc_l_clauses.nd rfl (.inl rfl) pe_str)
  (pss_cons (ps_for PassesOwn.never rfl (pi_range1 rfl T.n_range (pa_cons pe_int pa_nil)) (pg_name (i := 3) sc_l_clauses.nd rfl (.inl rfl))
  (pss_cons (ps_set (i := 4) sc_l_clauses.nd rfl (.inl rfl) (pe_op Rd.o_addS pe_str (pe_callTy (T := "str") (r := _) call_str_int (by rfl) T.n_str (by decide +kernel) (pa_cons (pe_op op_add (pv 3) pe_int) pa_nil))))
  (pss_cons (ps_asg (pe_bm PySem.F.plainAttrs_str PySem.F.slot_str_partition PySem.F.type_str_partition Rf.mt_part (pv 0) (pa_cons pe_str pa_nil)) (pg_tup rfl (pgs_cons (pg_name (i := 5) sc_l_clauses.nd rfl (.inl rfl)) (pgs_cons (pg_name (i := 6) sc_l_clauses.nd rfl (.inl rfl)) (pgs_cons (pg_name (i := 7) sc_l_clauses.nd rfl (.inl rfl)) pgs_nil)))))
  (pss_cons (ps_if (pt_cmpR op_eq (pv 6) pe_str (nomark _))
  (pss_cons (ps_asg (pe_bm PySem.F.plainAttrs_str PySem.F.slot_str_partition PySem.F.type_str_partition Rf.mt_part (pv 0) (pa_cons pe_str pa_nil)) (pg_tup rfl (pgs_cons (pg_name (i := 8) sc_l_clauses.nd rfl (.inl rfl)) (pgs_cons (pg_name (i := 9) sc_l_clauses.nd rfl (.inl rfl)) (pgs_cons (pg_name (i := 10) sc_l_clauses.nd rfl (.inl rfl)) pgs_nil)))))
  (pss_cons (ps_if (pt_cmpR op_ne (pv 10) (pe_op Rd.o_addS (pv 2) pe_str) (nomark _))
  (pss_one (ps_ret pe_non))
  pss_nil)
  (pss_one (ps_ret (pe_tup (pa_cons (pv 1) (pa_cons (pv 8) pa_nil)))))))
  pss_nil)
  (pss_cons (ps_if (pt_cmpR op_eq (pv 5) (pe_op Rd.o_addS pe_str (pv 4)) (nomark _))
  (pss_cons (ps_asg (pe_bm PySem.F.plainAttrs_str PySem.F.slot_str_partition PySem.F.type_str_partition Rf.mt_part (pv 7) (pa_cons pe_str pa_nil)) (pg_tup rfl (pgs_cons (pg_name (i := 8) sc_l_clauses.nd rfl (.inl rfl)) (pgs_cons (pg_name (i := 9) sc_l_clauses.nd rfl (.inl rfl)) (pgs_cons (pg_name (i := 10) sc_l_clauses.nd rfl (.inl rfl)) pgs_nil)))))
  (pss_cons (ps_asg (pe_bm PySem.F.plainAttrs_str PySem.F.slot_str_partition PySem.F.type_str_partition Rf.mt_part (pv 10) (pa_cons pe_str pa_nil)) (pg_tup rfl (pgs_cons (pg_name (i := 11) sc_l_clauses.nd rfl (.inl rfl)) (pgs_cons (pg_name (i := 12) sc_l_clauses.nd rfl (.inl rfl)) (pgs_cons (pg_name (i := 0) sc_l_clauses.nd rfl (.inl rfl)) pgs_nil)))))
  (pss_cons (ps_if (pt_cmpR op_ne (pv 11) (pe_op Rd.o_addS (pe_op Rd.o_addS (pe_op Rd.o_addS (pv 2) pe_str) (pv 4)) pe_str) (nomark _))
  (pss_one (ps_ret pe_non))
  pss_nil)
  (pss_one (ps_expr (pe_bm PySem.F.plainAttrs_list PySem.F.slot_list_append PySem.F.type_list_append mt_append (pv 1) (pa_cons (pe_tup (pa_cons pe_str (pa_cons (pv 8) pa_nil))) pa_nil)))))))
  (pss_one (ps_if (PW.pt (pw_and (pt_cmpR op_eq (pv 5) (pe_op Rd.o_addS pe_str (pv 4)) (nomark _)) (pw_and1 (pt_val (pe_bm PySem.F.plainAttrs_str PySem.F.slot_str_startswith PySem.F.type_str_startswith Rf.mt_sw (pv 7) (pa_cons pe_str pa_nil))))))
  (pss_cons (ps_asg (pe_bm PySem.F.plainAttrs_str PySem.F.slot_str_partition PySem.F.type_str_partition Rf.mt_part (pe_slice sl_str (pv 7) (po_some pe_int) po_none) (pa_cons pe_str pa_nil)) (pg_tup rfl (pgs_cons (pg_name (i := 8) sc_l_clauses.nd rfl (.inl rfl)) (pgs_cons (pg_name (i := 9) sc_l_clauses.nd rfl (.inl rfl)) (pgs_cons (pg_name (i := 10) sc_l_clauses.nd rfl (.inl rfl)) pgs_nil)))))
  (pss_cons (ps_asg (pe_bm PySem.F.plainAttrs_str PySem.F.slot_str_partition PySem.F.type_str_partition Rf.mt_part (pv 10) (pa_cons pe_str pa_nil)) (pg_tup rfl (pgs_cons (pg_name (i := 11) sc_l_clauses.nd rfl (.inl rfl)) (pgs_cons (pg_name (i := 12) sc_l_clauses.nd rfl (.inl rfl)) (pgs_cons (pg_name (i := 0) sc_l_clauses.nd rfl (.inl rfl)) pgs_nil)))))
  (pss_cons (ps_if (pt_cmpR op_ne (pv 11) (pe_op Rd.o_addS (pe_op Rd.o_addS (pe_op Rd.o_addS (pv 4) pe_str) (pv 2)) pe_str) (nomark _))
  (pss_one (ps_ret pe_non))
  pss_nil)
  (pss_one (ps_expr (pe_bm PySem.F.plainAttrs_list PySem.F.slot_list_append PySem.F.type_list_append mt_append (pv 1) (pa_cons (pe_tup (pa_cons pe_str (pa_cons (pv 8) pa_nil))) pa_nil)))))))
  (pss_one (ps_ret pe_non)))))
  (pss_one (ps_set (i := 2) sc_l_clauses.nd rfl (.inl rfl) (pv 4))))))))
  (pss_one (ps_ret pe_non))))), ?_⟩
    have l1 := hR.l1
    have l80 := hR.l80
    have w12 : ∀ s ∈ ss, s.2.length ≤ 12 := fun s m => by have := (hR.ok s m).wd.l1; omega
    walk_at "rd"
    refine ⟨Nat.zero_le _, Rd.new fun f G1 nf gf s1 => ?_⟩
    walk_at "rd"
    refine Rd.forS ?_
    walk_at "rd"
    refine ⟨by decide, by decide, ?_⟩
    refine for_range (lo := 0) (n := 90) (fun i σ H' => ∃ (y pl : Str) (o3 o4 o5 o6 o7 o8 o9 o10 o11 o12 : Option V), σ = [some (.str y), some (.ref f), some (.str pl), o3, o4, o5, o6, o7, o8, o9, o10, o11, o12] ∧ i < ss.length ∧ TL.tl y = sayL (ss.drop i) i ∧ TL.tl pl = placeL i ∧ CRows H' f ((ss.take i).map cwOf) ∧ ∀ b, b ≠ f → ∀ o, G1 b = some o → H' b = some o)
      ⟨y, "x", _, _, _, _, _, _, _, _, _, _, rfl, by omega, ey, by decide +kernel, ⟨[], gf, rfl, fun i r s e => by simp at e⟩, fun b _ o e => e⟩ ?_ ?_
    · clear y ey
      rintro i _ H2 hi ⟨y, pl, o3, o4, o5, o6, o7, o8, o9, o10, o11, o12, rfl, il, ey, ep, hf, fr⟩
      have hi : i < 90 := hi
      have hsi : ss[i]? = some ss[i] := List.getElem?_eq_getElem il
      have sok := hR.ok _ (List.mem_of_getElem? hsi)
      have ed : ss.drop i = ss[i] :: ss.drop (i + 1) := List.drop_eq_getElem_cons il
      have yl : y.length ≤ 1000000 := by
        have := say_len (ss.drop i) i (fun s m => w12 s (List.mem_of_mem_drop m)) (by rw [List.length_drop]; omega)
        rw [← ey, ← tlE, List.length_drop] at this
        omega
      rw [ed] at ey
      generalize ss[i] = s at hsi sok ey ed
      have p1 := place_len (k := i) (by omega)
      have p2 := place_len (k := i + 1) (by omega)
      have nl := num_len (k := i + 1) (by omega)
      have wl := sok.wd.l1
      have efr : TL.tl (Str.ofString "p" ++ Str.ofString (toString (((i + 1 : Nat) : Nat) : Int))) = placeL (i + 1) := by
        rw [TL.tl_append, t_p, TL.tl_num]
        rfl
      have nll := tlE (Str.ofString (toString (((i + 1 : Nat) : Nat) : Int)))
      rw [TL.tl_num] at nll
      have lp : (Str.ofString "p").length = 1 := by decide +kernel
      walk_at "rd"
      rw [show (0 : Int) + (i : Int) + 1 = ((i + 1 : Nat) : Int) by omega]
      refine ⟨log_small (by omega), _, _, rfl, rfl, by rw [sizeLine_eq]; omega, ?_⟩
      generalize Str.ofString "p" ++ Str.ofString (toString (((i + 1 : Nat) : Nat) : Int)) = fre at efr
      clear nll lp
      dsimp only
      walk_at "rd"
      refine Rf.tyS ?_
      walk_at "rd"
      have gfF : ∃ xs, H2 f = some (.lst xs) := let ⟨_, h, _⟩ := hf; ⟨_, h⟩
      by_cases last : i + 1 = ss.length
      · have er : ss.drop (i + 1) = [] := List.drop_eq_nil_of_le (by omega)
        rw [er] at ey
        have ey : TL.tl y = endL s i := ey
        have es : s = sl := by
          rw [show ss.length - 1 = i by omega, hsi] at hl
          exact Option.some.inj hl
        have n58 : 58 ∉ TL.tl y := by
          rw [ey]
          unfold endL
          simp only [List.mem_append, not_or]
          exact ⟨⟨abc_sign sok.wd.ok (by omega), by decide⟩, place_free (by omega), by decide⟩
        refine partG (TL.partition_none t_colon n58) (by decide +kernel) yl fun p3 H3 n3 g3 s3 => ?_
        walk_at "rd"
        refine Rd.tupT (.of g3) rfl ?_
        walk_at "rd"
        refine Rd.yes rfl ?_
        walk_at "rd"
        refine Rf.tyS ?_
        walk_at "rd"
        obtain ⟨a, b, epart, ea, eb⟩ := partHd (y := y) (q := placeL i ++ [44, 32, 121, 41]) t_open (by rw [ey]; unfold endL; simp) (abc_sign sok.wd.ok (s := 40) (by omega))
        obtain rfl : a = s.2 := TL.ext_tl ea
        refine partG epart (by decide +kernel) yl fun p4 H4 n4 g4 s4 => ?_
        walk_at "rd"
        refine Rd.tupT (.of g4) rfl ?_
        walk_at "rd"
        refine ⟨_, _, rfl, rfl, by rw [tlE pl, ep, show (Str.ofString ", y)").length = 4 by decide +kernel, sizeLine_eq]; omega, ?_⟩
        refine Rd.neS ?_
        rw [decide_eq_true (TL.ext_tl (by rw [eb, TL.tl_append, ep, t_commay]))]
        walk_at "rd"
        refine ⟨Nat.le_of_ble_eq_true rfl, Rd.new fun p5 H5 n5 g5 s5 => ?_⟩
        have s35 := (s3.trans s4).trans s5
        have hf5 := hf.same s35
        rw [show i = ss.length - 1 by omega, ← List.dropLast_eq_take] at hf5
        rw [es] at g5
        exact k p5 f H5 g5 hf5 fun b o e => s35 _ _ (fr b (ne_of_none e nf) o (s1 _ _ e))
      · have hs2 : ∃ s' r, ss.drop (i + 1) = s' :: r := by
          cases e : ss.drop (i + 1) with
          | nil =>
            have := congrArg List.length e
            rw [List.length_drop] at this
            simp at this
            omega
          | cons s' r => exact ⟨s', r, rfl⟩
        obtain ⟨s', r, er⟩ := hs2
        have ey : TL.tl y = rowL s i ++ sayL (ss.drop (i + 1)) (i + 1) := by rw [ey, er]; rfl
        have on_ne : ¬ Str.ofString ": " = Str.ofString "" := by decide +kernel
        have l4 : (Str.ofString ", ").length = 2 := by decide +kernel
        have l5 : (Str.ofString ")").length = 1 := by decide +kernel
        have lsome : (Str.ofString "some ").length = 5 := by decide +kernel
        have lall : (Str.ofString "all ").length = 4 := by decide +kernel
        have lpl := tlE pl
        rw [ep] at lpl
        have lfre := tlE fre
        rw [efr] at lfre
        have tsome : TL.tl ("some " : Str) = [115, 111, 109, 101, 32] := by decide +kernel
        have tall : TL.tl ("all " : Str) = [97, 108, 108, 32] := by decide +kernel
        have tcl : TL.tl (")" : Str) = [41] := by decide +kernel
        have tand : TL.tl (" and " : Str) = [32, 97, 110, 100, 32] := by decide +kernel
        have tthen : TL.tl (" then " : Str) = [32, 116, 104, 101, 110, 32] := by decide +kernel
        by_cases c : s.1 = ("on" : Str)
        · rw [rowL, if_pos c] at ey
          obtain ⟨a, b, epart, ea, eb⟩ := partHd (y := y) (q := TL.tl s.2 ++ [40] ++ (placeL i ++ [44, 32] ++ placeL (i + 1) ++ [41]) ++ [32, 97, 110, 100, 32] ++ sayL (ss.drop (i + 1)) (i + 1)) (p := [115, 111, 109, 101, 32] ++ placeL (i + 1)) t_colon (by rw [ey]; simp) (by
            rw [List.mem_append, not_or]
            exact ⟨by decide, place_free (by omega)⟩)
          refine partG epart (by decide +kernel) yl fun p3 H3 n3 g3 s3 => ?_
          walk_at "rd"
          refine Rd.tupT (.of g3) rfl ?_
          walk_at "rd"
          refine Rd.no on_ne ?_
          walk_at "rd"
          refine ⟨_, _, rfl, rfl, by rw [sizeLine_eq]; omega, ?_⟩
          refine Rd.eqS ?_
          rw [decide_eq_true (TL.ext_tl (by rw [ea, TL.tl_append, tsome, efr]))]
          walk_at "rd"
          refine Rf.tyS ?_
          walk_at "rd"
          obtain ⟨a2, b2, epart2, ea2, eb2⟩ := partHd (y := b) (q := placeL i ++ [44, 32] ++ placeL (i + 1) ++ [41] ++ [32, 97, 110, 100, 32] ++ sayL (ss.drop (i + 1)) (i + 1)) t_open (by rw [eb]; simp) (abc_sign sok.wd.ok (s := 40) (by omega))
          obtain rfl : a2 = s.2 := TL.ext_tl ea2
          have bl : b.length ≤ 1000000 := by
            have h1 := tlE y
            have h2 := tlE b
            rw [ey] at h1
            rw [eb] at h2
            simp only [List.length_append, List.length_cons, List.length_nil] at h1 h2
            omega
          refine partG epart2 (by decide +kernel) bl fun p4 H4 n4 g4 s4 => ?_
          walk_at "rd"
          refine Rd.tupT (.of g4) rfl ?_
          walk_at "rd"
          refine Rf.tyS ?_
          walk_at "rd"
          obtain ⟨a3, b3, epart3, ea3, eb3⟩ := partMid (y := b2) (A := placeL i ++ [44]) (d := 112) (B := TL.numL (i + 1) ++ [41]) (q := sayL (ss.drop (i + 1)) (i + 1)) tand (by rw [eb2]; simp [placeL]) (by decide) (by
            rw [List.mem_append, not_or]
            exact ⟨place_free (by omega), by decide⟩) (by
            rw [List.mem_cons, List.mem_append, not_or, not_or]
            exact ⟨by decide, TL.numL_free (by omega), by decide⟩)
          have bl2 : b2.length ≤ 1000000 := by
            have h1 := tlE b
            have h2 := tlE b2
            rw [eb] at h1
            rw [eb2] at h2
            simp only [List.length_append, List.length_cons, List.length_nil] at h1 h2
            omega
          refine partG epart3 (by decide +kernel) bl2 fun p5 H5 n5 g5 s5 => ?_
          walk_at "rd"
          refine Rd.tupT (.of g5) rfl ?_
          walk_at "rd"
          refine addQ (m := 20) (by omega) (by omega) (by decide) fun q1 => ?_
          walk_at "rd"
          refine addQ q1 (by omega) (by decide) fun q2 => ?_
          walk_at "rd"
          refine addQ q2 (by omega) (by decide) fun q3 => ?_
          refine Rd.neS ?_
          rw [decide_eq_true (TL.ext_tl (by rw [ea3]; simp only [TL.tl_append, ep, efr, t_comma, tcl, placeL]; simp))]
          walk_at "rd"
          have s35 := (s3.trans s4).trans s5
          obtain ⟨xs, gxs⟩ := gfF
          have gf5 := s35 _ _ gxs
          refine Rd.tyL (.of gf5) ?_
          walk_at "rd"
          refine ⟨Nat.le_of_ble_eq_true rfl, Rd.new fun p6 H6 n6 g6 s6 => ?_⟩
          have hf6 := hf.same (s35.trans s6)
          have gf6 := s6 _ _ gf5
          walk_at "rd"
          refine Rd.app gf6 (by obtain ⟨rs, h1, h2, _⟩ := hf; rw [gxs] at h1; cases h1; rw [List.length_map, h2, List.length_map, List.length_take, sizeLine_eq]; omega) fun H7 g7 off7 => ?_
          walk_at "rd"
          refine ⟨b3, fre, _, _, _, _, _, _, _, _, _, _, rfl, by omega, eb3, efr, ?_, fun b nb o e => ?_⟩
          · rw [Rd.take_snoc hsi, List.map_append]
            refine hf6.push (r := p6) (s := cwOf s) (by rw [g6]; unfold cwOf; rw [if_pos c]) (fun e => by rw [e, gf6] at g6; cases g6) (fun ys h => by rw [gf6] at h; cases h; exact g7) off7
          · rw [off7 b nb]
            exact s6 _ _ (s35 _ _ (fr b nb o e))
        · rw [rowL, if_neg c] at ey
          obtain ⟨a, b, epart, ea, eb⟩ := partHd (y := y) (q := [105, 102, 32] ++ (TL.tl s.2 ++ [40] ++ (placeL (i + 1) ++ [44, 32] ++ placeL i ++ [41]) ++ [32, 116, 104, 101, 110, 32] ++ sayL (ss.drop (i + 1)) (i + 1))) (p := [97, 108, 108, 32] ++ placeL (i + 1)) t_colon (by rw [ey]; simp) (by
            rw [List.mem_append, not_or]
            exact ⟨by decide, place_free (by omega)⟩)
          refine partG epart (by decide +kernel) yl fun p3 H3 n3 g3 s3 => ?_
          walk_at "rd"
          refine Rd.tupT (.of g3) rfl ?_
          walk_at "rd"
          refine Rd.no on_ne ?_
          walk_at "rd"
          refine ⟨_, _, rfl, rfl, by rw [sizeLine_eq]; omega, ?_⟩
          refine Rd.eqS ?_
          rw [decide_eq_false (fun e : a = Str.ofString "some " ++ fre => by
            have := congrArg TL.tl e
            rw [ea, TL.tl_append, tsome, efr] at this
            simp at this)]
          walk_at "rd"
          refine ⟨_, _, rfl, rfl, by rw [sizeLine_eq]; omega, ?_⟩
          refine Rd.eqS ?_
          rw [decide_eq_true (TL.ext_tl (by rw [ea, TL.tl_append, tall, efr]))]
          walk_at "rd"
          refine Rf.tyS ?_
          walk_at "rd"
          refine Rf.swS ?_
          have tif : TL.tl ("if " : Str) = [105, 102, 32] := by decide +kernel
          rw [show Txt.startswith b "if " = true from (Rf.sw_iff b "if ").mpr (by rw [eb, tif]; rfl)]
          walk_at "rd"
          obtain ⟨bb, hbb⟩ : ∃ bb : Str, TL.tl bb = TL.tl s.2 ++ [40] ++ (placeL (i + 1) ++ [44, 32] ++ placeL i ++ [41]) ++ [32, 116, 104, 101, 110, 32] ++ sayL (ss.drop (i + 1)) (i + 1) := ⟨⟨(TL.tl s.2 ++ [40] ++ (placeL (i + 1) ++ [44, 32] ++ placeL i ++ [41]) ++ [32, 116, 104, 101, 110, 32] ++ sayL (ss.drop (i + 1)) (i + 1)).toArray⟩, rfl⟩
          have ebb : b = "if " ++ bb := TL.ext_tl (by rw [eb, TL.tl_append, tif, hbb])
          have bl : b.length ≤ 1000000 := by
            have h1 := tlE y
            have h2 := tlE b
            rw [ey] at h1
            rw [eb] at h2
            simp only [List.length_append, List.length_cons, List.length_nil] at h1 h2
            omega
          have bbl : bb.length ≤ 1000000 := by
            have h1 := tlE b
            have h2 := tlE bb
            rw [eb] at h1
            rw [hbb] at h2
            simp only [List.length_append, List.length_cons, List.length_nil] at h1 h2
            omega
          refine Rd.slS (by rw [sizeLine_eq]; omega) ?_
          rw [show cutS b (some 3) none = bb by rw [ebb]; exact Rf.cut_app "if " bb]
          refine Rf.tyS ?_
          walk_at "rd"
          obtain ⟨a2, b2, epart2, ea2, eb2⟩ := partHd (y := bb) (q := placeL (i + 1) ++ [44, 32] ++ placeL i ++ [41] ++ [32, 116, 104, 101, 110, 32] ++ sayL (ss.drop (i + 1)) (i + 1)) t_open (by rw [hbb]; simp) (abc_sign sok.wd.ok (s := 40) (by omega))
          obtain rfl : a2 = s.2 := TL.ext_tl ea2
          refine partG epart2 (by decide +kernel) bbl fun p4 H4 n4 g4 s4 => ?_
          walk_at "rd"
          refine Rd.tupT (.of g4) rfl ?_
          walk_at "rd"
          refine Rf.tyS ?_
          walk_at "rd"
          obtain ⟨d, B, hpB, hd, hB⟩ : ∃ (d : Nat) (B : List Nat), placeL i = d :: B ∧ d ≠ 116 ∧ 32 ∉ d :: B := by
            have n := place_free (k := i) (s := 32) (by omega)
            cases i with
            | zero => exact ⟨120, [], rfl, by decide, by decide⟩
            | succ i => exact ⟨112, TL.numL (i + 1), rfl, by decide, n⟩
          obtain ⟨a3, b3, epart3, ea3, eb3⟩ := partMid (y := b2) (A := placeL (i + 1) ++ [44]) (d := d) (B := B ++ [41]) (q := sayL (ss.drop (i + 1)) (i + 1)) tthen (by rw [eb2, hpB]; simp) hd (by
            rw [List.mem_append, not_or]
            exact ⟨place_free (by omega), by decide⟩) (by
            rw [← List.cons_append, List.mem_append, not_or]
            exact ⟨hB, by decide⟩)
          have bl2 : b2.length ≤ 1000000 := by
            have h1 := tlE bb
            have h2 := tlE b2
            rw [hbb] at h1
            rw [eb2] at h2
            simp only [List.length_append, List.length_cons, List.length_nil] at h1 h2
            omega
          refine partG epart3 (by decide +kernel) bl2 fun p5 H5 n5 g5 s5 => ?_
          walk_at "rd"
          refine Rd.tupT (.of g5) rfl ?_
          walk_at "rd"
          refine addQ (m := 20) (by omega) (by omega) (by decide) fun q1 => ?_
          walk_at "rd"
          refine addQ q1 (by omega) (by decide) fun q2 => ?_
          walk_at "rd"
          refine addQ q2 (by omega) (by decide) fun q3 => ?_
          refine Rd.neS ?_
          rw [decide_eq_true (TL.ext_tl (by rw [ea3]; simp only [TL.tl_append, ep, efr, t_comma, tcl, hpB]; simp))]
          walk_at "rd"
          have s35 := (s3.trans s4).trans s5
          obtain ⟨xs, gxs⟩ := gfF
          have gf5 := s35 _ _ gxs
          refine Rd.tyL (.of gf5) ?_
          walk_at "rd"
          refine ⟨Nat.le_of_ble_eq_true rfl, Rd.new fun p6 H6 n6 g6 s6 => ?_⟩
          have hf6 := hf.same (s35.trans s6)
          have gf6 := s6 _ _ gf5
          walk_at "rd"
          refine Rd.app gf6 (by obtain ⟨rs, h1, h2, _⟩ := hf; rw [gxs] at h1; cases h1; rw [List.length_map, h2, List.length_map, List.length_take, sizeLine_eq]; omega) fun H7 g7 off7 => ?_
          walk_at "rd"
          refine ⟨b3, fre, _, _, _, _, _, _, _, _, _, _, rfl, by omega, eb3, efr, ?_, fun b nb o e => ?_⟩
          · rw [Rd.take_snoc hsi, List.map_append]
            refine hf6.push (r := p6) (s := cwOf s) (by rw [g6]; unfold cwOf; rw [if_neg c]) (fun e => by rw [e, gf6] at g6; cases g6) (fun ys h => by rw [gf6] at h; cases h; exact g7) off7
          · rw [off7 b nb]
            exact s6 _ _ (s35 _ _ (fr b nb o e))
    · rintro _ H2 ⟨y, pl, o3, o4, o5, o6, o7, o8, o9, o10, o11, o12, rfl, il, _⟩
      have il : 90 < ss.length := il
      omega

end
end W

namespace W
open PySem PySem.Spec PyProof.Rows L2
section
variable {P : Program} {w : World} {K : PySem.W.Frag} {mg : Str → Option Value} {base : Heap}
/-! ### roads -/
theorem eqv_nats : ∀ a b : List Nat, PyData.eqvAll ((a.map fun i : Nat => (i : Int)).map PyData.int) ((b.map fun i : Nat => (i : Int)).map PyData.int) = decide (a = b)
  | [], [] => rfl
  | [], _ :: _ => rfl
  | _ :: _, [] => rfl
  | x :: a, y :: b => by
    show (decide ((x : Int) = (y : Int)) && PyData.eqvAll ((a.map fun i : Nat => (i : Int)).map PyData.int) ((b.map fun i : Nat => (i : Int)).map PyData.int)) = _
    rw [eqv_nats a b, Bool.eq_iff_iff]
    have e : ((x : Int) = (y : Int)) ↔ x = y := by omega
    simp only [Bool.and_eq_true, decide_eq_true_iff, List.cons.injEq, e]
theorem clsIn {H : Hp} {v d : Addr} {c : List Nat} {cs : List (List Nat)} {Q : VK} (hv : H v = some (.tup (natV c))) (hd : ClsAt H d cs) (q : Q (.bl (decide (c ∈ cs))) H) : rInD K (.ref v) (.ref d) H Q := by
  refine ⟨.tuple ((c.map fun i : Nat => (i : Int)).map PyData.int), natsV cs, .tup (.of hv) (Rd.dpAll_ints (c.map fun i : Nat => (i : Int))), dp_cls hd, ?_, shaped_nats cs, ?_⟩
  · have h1 : PyData.canLay0 (.tuple ((c.map fun i : Nat => (i : Int)).map PyData.int)) = true := Rd.canLay_ints _
    have h2 : PyData.depth (.tuple ((c.map fun i : Nat => (i : Int)).map PyData.int)) = 1 := by
      show PyData.depthAll ((c.map fun i : Nat => (i : Int)).map PyData.int) + 1 = 1
      rw [Rd.depth_ints]
    unfold SeqAt.shaped
    rw [h1, h2]
    rfl
  have e : ((natsV cs).any fun x => PyData.eqv x (.tuple ((c.map fun i : Nat => (i : Int)).map PyData.int))) = decide (c ∈ cs) := by
    unfold natsV
    rw [List.any_map, Bool.eq_iff_iff, List.any_eq_true, decide_eq_true_iff]
    constructor
    · rintro ⟨x, m, e⟩
      have e : PyData.eqvAll ((x.map fun i : Nat => (i : Int)).map PyData.int) ((c.map fun i : Nat => (i : Int)).map PyData.int) = true := e
      rw [eqv_nats, decide_eq_true_iff] at e
      rw [← e]
      exact m
    · exact fun m => ⟨c, m, by show PyData.eqvAll ((c.map fun i : Nat => (i : Int)).map PyData.int) ((c.map fun i : Nat => (i : Int)).map PyData.int) = true; rw [eqv_nats]; exact decide_eq_true rfl⟩
  rw [e]
  exact q
def RoadsAt (H : Hp) (d : Addr) (R : Str → List (List Nat)) : Prop := ∃ kvs : List (Key × V), H d = some (.dK kvs) ∧ (∀ (c : Str) (v : V), valV kvs (.inr c) = some v → ∃ a, v = .ref a ∧ ClsAt H a (R c)) ∧ ∀ c : Str, valV kvs (.inr c) = none → R c = []
theorem RoadsAt.same {H H' : Hp} {d : Addr} {R : Str → List (List Nat)} (s : Same H H') (h : RoadsAt H d R) : RoadsAt H' d R := let ⟨kvs, h1, h2, h3⟩ := h; ⟨kvs, s _ _ h1, fun c v e => let ⟨a, e1, e2⟩ := h2 c v e; ⟨a, e1, e2.same s⟩, h3⟩
def sp_l_roads (K : PySem.W.Frag) : Sp := fun vs H Q _ => ∃ (t c : Addr) (z : Str), vs = [.ref t, .str z] ∧ Tape H t c ∧ z.length ≤ 100 ∧ ∀ (p d : Addr) (n : Nat) (R : Str → List (List Nat)) H', 2 ≤ n → n ≤ 4 → H' p = some (.tup [.int (n : Nat), .ref d]) → RoadsAt H' d R → Tape H' t c → Rd.But t H H' → Q (.ref p) H'
def sp_l_pairs (K : PySem.W.Frag) : Sp := fun vs H Q _ => ∃ (d : Addr) (n : Nat) (R : Str → List (List Nat)) (z : Str), vs = [.int (n : Nat), .ref d, .str z] ∧ 1 ≤ n ∧ n ≤ 4 ∧ RoadsAt H d R ∧ z.length ≤ 100 ∧ ∀ (l : Addr) H', Same H H' → H l = none → ClsAt H' l (Mi.pairsOf n R (Re.Signs z)) → Q (.ref l) H'
def rowsM (rows : List (Str × Str)) : List (Bool × List Str) := rows.map fun s => (decide (s.1 = ("some" : Str)), Re.Signs s.2)
def sp_l_holds (K : PySem.W.Frag) : Sp := fun vs H Q _ => ∃ (d p L : Addr) (n : Nat) (R : Str → List (List Nat)) (rows : List (Str × Str)) (last : Str), vs = [.int (n : Nat), .ref d, .ref p] ∧ 1 ≤ n ∧ n ≤ 4 ∧ RoadsAt H d R ∧ H p = some (.tup [.ref L, .str last]) ∧ CRows H L rows ∧ rows.length ≤ 100 ∧ last.length ≤ 100 ∧ (∀ s ∈ rows, s.2.length ≤ 100 ∧ (s.1 = ("some" : Str) ∨ s.1 = ("all" : Str))) ∧ ∀ (l : Addr) H', Same H H' → H l = none → ClsAt H' l ((Mi.holds n R (Re.Signs last) (rowsM rows)).mergeSort (PySem.W.dataLe false tupD)) → Q (.ref l) H'
theorem dget2R {H : Hp} {d : Addr} {R : Str → List (List Nat)} {td ty : TE} {c : Str} {σ : L2.St} {Q : VK} (hR : RoadsAt H d R) (gd : ∀ Q' : VK, Q' (.ref d) H → td σ H Q') (gy : ∀ Q' : VK, Q' (.str c) H → ty σ H Q') (k : ∀ (a : Addr) (G : Hp), Same H G → ClsAt G a (R c) → Q (.ref a) G) : tDGet2 td ty (tLst tNil) σ H Q := by
  obtain ⟨kvs, g, h2, h3⟩ := hR
  refine gd _ ⟨d, rfl, .inl ⟨_, .of g⟩, gy _ ?_⟩
  refine (show tLst tNil σ H _ from ⟨Nat.zero_le _, fun b nb => ?_⟩)
  have s : Same H (upd H b (.lst [])) := Rd.same_upd nb
  have gb : upd H b (.lst []) b = some (.lst []) := upd_same
  generalize upd H b (.lst []) = G at s gb
  refine ⟨valV kvs (.inr c), DGet.k (k := .inr c) (s _ _ g), ?_⟩
  cases e : valV kvs (.inr c) with
  | none =>
    refine k b G s ?_
    rw [h3 c e]
    exact ⟨[], gb, .nil⟩
  | some v =>
    obtain ⟨a, rfl, ha⟩ := h2 c v e
    exact k a G s (ha.same s)
/-- pairs in the making -/
def PrAt (G : Hp) (acc : List V) (cs : List (List Nat)) : Prop := ∃ qs : List Addr, acc = qs.map V.ref ∧ Paired (fun q c => G q = some (.tup (natV c))) qs cs
theorem PrAt.push {H H4 G : Hp} {D r : Addr} {acc xs : List V} {cs : List (List Nat)} {c : List Nat} (h : PrAt H acc cs) (s : Same H H4) (hr : H4 r = some (.tup (natV c))) (hD : H4 D = some (.lst xs)) (off : ∀ b, b ≠ D → G b = H4 b) : PrAt G (acc ++ [.ref r]) (cs ++ [c]) := by
  obtain ⟨qs, rfl, p⟩ := h
  have k : ∀ (q : Addr) (ys : List V), H4 q = some (.tup ys) → G q = some (.tup ys) := fun q ys e => by rw [off q (fun n => by rw [n, hD] at e; cases e)]; exact e
  refine ⟨qs ++ [r], by rw [List.map_append]; rfl, (paired_mono p fun q c e => k _ _ (s _ _ e)).snoc (k _ _ hr)⟩
theorem PrAt.same {H G : Hp} {acc : List V} {cs : List (List Nat)} (h : PrAt H acc cs) (s : Same H G) : PrAt G acc cs := let ⟨qs, e, p⟩ := h; ⟨qs, e, paired_mono p fun q c e => s _ _ e⟩
theorem PrAt.len {H : Hp} {acc : List V} {cs : List (List Nat)} (h : PrAt H acc cs) : acc.length = cs.length := let ⟨qs, e, p⟩ := h; by rw [e, List.length_map]; exact Paired.length p
theorem ClsAt.pr {H : Hp} {l : Addr} {cs : List (List Nat)} (h : ClsAt H l cs) : ∃ xs, H l = some (.lst xs) ∧ PrAt H xs cs := let ⟨qs, g, p⟩ := h; ⟨_, g, qs, rfl, p⟩
theorem PrAt.cls {H : Hp} {l : Addr} {xs : List V} {cs : List (List Nat)} (h : PrAt H xs cs) (g : H l = some (.lst xs)) : ClsAt H l cs := let ⟨qs, e, p⟩ := h; ⟨qs, by rw [g, e], p⟩
theorem PrAt.app {H : Hp} {xs ys : List V} {cs ds : List (List Nat)} (h : PrAt H xs cs) (h' : PrAt H ys ds) : PrAt H (xs ++ ys) (cs ++ ds) := let ⟨qs, e, p⟩ := h; let ⟨rs, e', p'⟩ := h'; ⟨qs ++ rs, by rw [e, e', List.map_append], paired_app p p'⟩
theorem nat_get {P : List Nat} {i : Nat} {x : V} (h : (natV P)[i]? = some x) : ∃ p, P[i]? = some p ∧ x = .int (p : Nat) := by
  unfold natV at h
  rw [List.map_map, List.getElem?_map] at h
  obtain ⟨p, e, rfl⟩ := Option.map_eq_some_iff.mp h
  exact ⟨p, e, rfl⟩
theorem nat_snoc (P : List Nat) (x : Nat) : natV (P ++ [x]) = natV P ++ [.int (x : Nat)] := by
  unfold natV
  rw [List.map_append, List.map_append]
  rfl
theorem filt_snoc {α : Type} (f : α → Bool) (A : List α) (x : α) : (A ++ [x]).filter f = A.filter f ++ if f x = true then [x] else [] := by
  rw [List.filter_append]
  congr 1
  cases h : f x
  · rw [List.filter_cons_of_neg (by rw [h]; exact Bool.false_ne_true), if_neg Bool.false_ne_true]
    rfl
  · rw [List.filter_cons_of_pos h, if_pos rfl]
    rfl
theorem ok_l_pairs (T : Txt w K mg) : FnOk P w K mg base CX0 1 T.f_l_pairs T.fd_l_pairs ["_law_many", "_law_roads_here", "_law_word_here"] (sp_l_pairs K) := by
  refine T.F_l_pairs.ok sc_l_pairs (fun vs H Q E h => ?_) (fun cdv A outer s H vs Q E hr h => ?_)
  · obtain ⟨d, n, R, z, rfl, _⟩ := h
    rfl
  · obtain ⟨d, n, R, z, rfl, n1, n4, hR, zl, k⟩ := h
    refine ⟨_, (pss_cons (ps_set (i := 3) sc_l_pairs.nd rfl (.inl rfl) (pe_lst pa_nil))
  (pss_cons (ps_for PassesOwn.never rfl (pi_range1 rfl T.n_range (pa_cons (pv 0) pa_nil)) (pg_name (i := 4) sc_l_pairs.nd rfl (.inr rfl))
  (pss_cons (ps_set (i := 5) sc_l_pairs.nd rfl (.inr rfl) (pe_lst (pa_cons (pv 4) pa_nil)))
  (pss_cons (ps_for PassesOwn.never rfl (pi_str (pv 2)) (pg_name (i := 6) sc_l_pairs.nd rfl (.inr rfl))
  (pss_one (ps_set (i := 5) sc_l_pairs.nd rfl (.inr rfl) (pe_lc (own := [("_law_q", 7)]) (g := gName 7)  rfl sc_l_pairs.nd (pi_range1 rfl T.n_range (pa_cons (pv 0) pa_nil)) (blkOk_by (own := [("_law_q", 7)]) (N := ["_law_many", "_law_roads_here", "_law_word_here", "_law_found", "_law_p", "_law_front", "_law_letter", "_law_q", "_law_r"]) (sc := defScope s_l_pairs) (by decide +kernel)) (fun _ _ _ _ _ => (pg_name (i := 7) sc_l_pairs.nd rfl (by first | exact .inl rfl | exact .inr rfl))) (fun _ _ _ _ _ => pts_one (pt_cmpR op_gt (pe_callB (id := "len") (r := Rd.nLen K) Rd.c_len (by rfl) T.n_len (by decide +kernel) (pa_cons (by exact (pe_lc (own := [("_law_r", 8)]) (g := gName 8)  rfl sc_l_pairs.nd (Ry.pi_listK (K := K) rfl (pv 5)) (blkOk_by (own := [("_law_r", 8)]) (N := ["_law_many", "_law_roads_here", "_law_word_here", "_law_found", "_law_p", "_law_front", "_law_letter", "_law_q", "_law_r"]) (by rfl)) (fun _ _ _ _ _ => (pg_name (i := 8) sc_l_pairs.nd rfl (by first | exact .inl rfl | exact .inr rfl))) (fun _ _ _ _ _ => pts_one (pt_cmpR (r := rInD K) (op_inD (Rk.u65 hr)) (pe_tup (pa_cons (pv 8) (pa_cons (pv 7) pa_nil))) (pe_dget2 (hu_of hr) (pv 1) (pv 6) (pe_lst pa_nil) ⟨rfl, rfl, rfl, rfl⟩) (by rfl))) (fun _ _ _ _ _ => (pv 8)))) pa_nil)) pe_int (nomark _))) (fun _ _ _ _ _ => (pv 7))))))
  (pss_one (ps_set (i := 3) sc_l_pairs.nd rfl (.inl rfl) (pe_op op_cat (pv 3) (pe_lc (own := [("_law_q", 7)]) (g := gName 7) (tt := tYes) rfl sc_l_pairs.nd (pi_list (pv 5)) (blkOk_by (own := [("_law_q", 7)]) (N := ["_law_many", "_law_roads_here", "_law_word_here", "_law_found", "_law_p", "_law_front", "_law_letter", "_law_q", "_law_r"]) (sc := defScope s_l_pairs) (by decide +kernel)) (fun _ _ _ _ _ => (pg_name (i := 7) sc_l_pairs.nd rfl (.inl rfl))) (fun _ _ _ _ _ => pts_nil) (fun _ _ _ _ _ => (pe_tup (pa_cons (pv 4) (pa_cons (pv 7) pa_nil)))))))))))
  (pss_one (ps_ret (pv 3))))), ?_⟩
    walk_at "rd"
    refine ⟨Nat.zero_le _, Rd.new fun f G1 nf gf s1 => ?_⟩
    walk_at "rd"
    refine Rd.forS ?_
    walk_at "rd"
    refine ⟨by omega, by omega, ?_⟩
    refine for_range (lo := 0) (n := n) (fun i σ H' => ∃ (f : Addr) (o4 o5 o6 o7 o8 : Option V), σ = [some (.int (n : Nat)), some (.ref d), some (.str z), some (.ref f), o4, o5, o6, o7, o8] ∧ H f = none ∧ ClsAt H' f ((List.range i).flatMap fun p => (Mi.front n R [p] (Re.Signs z)).map fun q => [p, q]) ∧ Same H H')
      ⟨f, _, _, _, _, _, rfl, nf, ⟨[], gf, .nil⟩, s1⟩ ?_ ?_
    · clear nf gf s1
      rintro i _ H2 hi ⟨f, o4, o5, o6, o7, o8, rfl, nf, hf, s2⟩
      have hi : i < n := by omega
      walk_at "rd"
      refine ⟨Nat.le_of_ble_eq_true rfl, Rd.new fun a H3 na ga s3 => ?_⟩
      walk_at "rd"
      refine Rd.forS ?_
      walk_at "rd"
      have zs : z.cps.size = (Re.Signs z).length := by
        unfold Re.Signs
        rw [List.length_map, Array.length_toList]
      refine for_it walk_str (fun j σ H' => ∃ (a : Addr) (o6 o7 o8 : Option V), σ = [some (.int (n : Nat)), some (.ref d), some (.str z), some (.ref f), some (.int (0 + (i : Int))), some (.ref a), o6, o7, o8] ∧ H' a = some (.lst (natV (Mi.front n R [i] ((Re.Signs z).take j)))) ∧ Same H2 H')
        ⟨a, _, _, _, rfl, by rw [ga, Int.zero_add]; rfl, s3⟩ (fun _ _ _ _ _ => trivial) ?_ ?_
      · clear na ga s3 a
        rintro j x _ H3 G3 hj ⟨a, o6, o7, o8, rfl, ga, s3⟩ ⟨rfl, c, hc, rfl⟩
        have hc' : (Re.Signs z)[j]? = some ⟨#[c]⟩ := by
          unfold Re.Signs
          rw [List.getElem?_map, Array.getElem?_toList, hc]
          rfl
        rw [Rd.take_snoc hc']
        have fe : Mi.front n R [i] ((Re.Signs z).take j ++ [⟨#[c]⟩]) = Mi.stepF n R ⟨#[c]⟩ (Mi.front n R [i] ((Re.Signs z).take j)) := by
          unfold Mi.front
          rw [List.foldl_append]
          rfl
        rw [fe]
        have S4 : (Mi.front n R [i] ((Re.Signs z).take j)).length ≤ 4 := by
          have := Mi.front_len (n := n) (R := R) (cs := (Re.Signs z).take j) (S := [i])
          simp only [List.length_cons, List.length_nil] at this
          omega
        generalize Mi.front n R [i] ((Re.Signs z).take j) = S at ga S4
        clear fe
        walk_at "rd"
        refine ⟨by omega, by omega, ?_⟩
        rw [Int.toNat_natCast]
        refine Rd.lcS walk_range (fun _ _ => trivial) (fun D q acc _ => acc = natV ((List.range q).filter fun q => decide (∃ r ∈ S, [r, q] ∈ R ⟨#[c]⟩))) (fun _ _ _ _ _ => rfl) ?_ ?_
        · rintro D q x G _ acc nD hq hD sm rfl ⟨rfl, rfl⟩
          walk_at "rd"
          refine ⟨rfl, ?_⟩
          walk_at "rd"
          refine ⟨⟨_, .of (sm _ _ ga)⟩, ?_⟩
          refine Rd.lcS walk_list (fun _ s => .of (s _ _ (sm _ _ ga))) (fun D2 i acc _ => acc = natV ((S.take i).filter fun r => decide ([r, q] ∈ R ⟨#[c]⟩))) (fun _ _ _ _ _ => rfl) ?_ ?_
          · rintro D2 i2 x G2 _ acc2 nD2 hi2 hD2 sm2 rfl ⟨rfl, hx⟩
            obtain ⟨r, hr, rfl⟩ := nat_get hx
            walk_at "rd"
            refine ⟨rfl, ?_⟩
            walk_at "rd"
            refine ⟨Nat.le_of_ble_eq_true rfl, Rd.new fun u G3 nu gu s4 => ?_⟩
            walk_at "rd"
            have gu' : G3 u = some (.tup (natV [r, q])) := by
              rw [gu]
              show some (HO.tup [.int (r : Int), .int (0 + (q : Int))]) = _
              rw [Int.zero_add]
              rfl
            refine dget2R (c := ⟨#[c]⟩) (hR.same (s2.trans (s3.trans (sm.trans (sm2.trans s4))))) (fun Q q => ?_) (fun Q q => ?_) fun l G4 s5 hl => ?_
            · walk_at "rd"
              exact q
            · walk_at "rd"
              exact q
            refine clsIn (s5 _ _ gu') hl ?_
            walk_at "rd"
            have al : ((S.take i2).filter fun r => decide ([r, q] ∈ R ⟨#[c]⟩)).length ≤ 4 := by
              refine Nat.le_trans (List.length_filter_le _ _) ?_
              rw [List.length_take]
              omega
            have s45 := s4.trans s5
            by_cases e : [r, q] ∈ R ⟨#[c]⟩
            · refine Rd.yes e ?_
              walk_at "rd"
              refine Rd.lcPush (s45 _ _ hD2) nD2 (sm2.trans s45) (by rw [natV_len, sizeLine_eq]; omega) fun G5 _ _ => ?_
              rw [Rd.take_snoc hr, filt_snoc, if_pos (decide_eq_true e), nat_snoc]
            · refine Rd.no e ?_
              refine ⟨_, s45 _ _ hD2, sm2.trans s45, ?_⟩
              dsimp only
              rw [Rd.take_snoc hr, filt_snoc, if_neg (by rw [decide_eq_false e]; exact Bool.false_ne_true), List.append_nil]
          · rintro D2 acc2 G2 nD2 hD2 sm2 rfl
            rw [natV_len, List.take_length] at hD2
            walk_at "rd"
            refine Rd.len (.inl (.of hD2)) ?_
            rw [natV_len]
            walk_at "rd"
            have st : ((List.range (q + 1)).filter fun q => decide (∃ r ∈ S, [r, q] ∈ R ⟨#[c]⟩)) = ((List.range q).filter fun q => decide (∃ r ∈ S, [r, q] ∈ R ⟨#[c]⟩)) ++ if (∃ r ∈ S, [r, q] ∈ R ⟨#[c]⟩) then [q] else [] := by
              rw [List.range_succ, filt_snoc]
              congr 1
              by_cases e : ∃ r ∈ S, [r, q] ∈ R ⟨#[c]⟩
              · rw [if_pos e, if_pos (decide_eq_true e)]
              · rw [if_neg e, if_neg (by rw [decide_eq_false e]; exact Bool.false_ne_true)]
            have ql : ((List.range q).filter fun q => decide (∃ r ∈ S, [r, q] ∈ R ⟨#[c]⟩)).length ≤ 4 := by
              refine Nat.le_trans (List.length_filter_le _ _) ?_
              rw [List.length_range]
              omega
            by_cases e : ∃ r ∈ S, [r, q] ∈ R ⟨#[c]⟩
            · have pos : 0 < (S.filter fun r => decide ([r, q] ∈ R ⟨#[c]⟩)).length := by
                obtain ⟨r, h1, h2⟩ := e
                exact List.length_pos_of_mem (List.mem_filter.mpr ⟨h1, decide_eq_true h2⟩)
              refine Rd.yes (by omega) ?_
              walk_at "rd"
              refine Rd.lcPush (sm2 _ _ hD) nD (sm.trans sm2) (by rw [natV_len, sizeLine_eq]; omega) fun G5 _ _ => ?_
              rw [st, if_pos e, nat_snoc]
              show _ ++ [V.int (0 + (q : Int))] = _
              rw [Int.zero_add]
            · have zero : (S.filter fun r => decide ([r, q] ∈ R ⟨#[c]⟩)).length = 0 := by
                rw [List.length_eq_zero_iff, List.filter_eq_nil_iff]
                exact fun r h1 h2 => e ⟨r, h1, of_decide_eq_true h2⟩
              refine Rd.no (by omega) ?_
              refine ⟨_, sm2 _ _ hD, sm.trans sm2, ?_⟩
              dsimp only
              rw [st, if_neg e, List.append_nil]
        · rintro D acc G nD hD sm rfl
          walk_at "rd"
          exact ⟨D, _, _, _, rfl, hD, s3.trans sm⟩
      · rintro _ H3 ⟨a, o6, o7, o8, rfl, ga, s3⟩
        rw [zs, List.take_length] at ga
        obtain ⟨xs, gf, pf⟩ := ClsAt.pr (hf.same s3)
        walk_at "rd"
        refine ⟨⟨_, .of ga⟩, ?_⟩
        have S4 : (Mi.front n R [i] (Re.Signs z)).length ≤ 4 := by
          have := Mi.front_len (n := n) (R := R) (cs := Re.Signs z) (S := [i])
          simp only [List.length_cons, List.length_nil] at this
          omega
        refine Rd.lcS walk_list (fun _ s => .of (s _ _ ga)) (fun D j acc G => PrAt G acc (((Mi.front n R [i] (Re.Signs z)).take j).map fun q => [i, q])) (fun _ _ _ _ _ => ⟨[], rfl, .nil⟩) ?_ ?_
        · rintro D j x G _ acc nD hj hD sm pr ⟨rfl, hx⟩
          obtain ⟨q, hq, rfl⟩ := nat_get hx
          walk_at "rd"
          refine ⟨rfl, ?_⟩
          walk_at "rd"
          refine ⟨Nat.le_of_ble_eq_true rfl, Rd.new fun u G2 nu gu s4 => ?_⟩
          have al := pr.len
          rw [List.length_map, List.length_take] at al
          rw [Int.zero_add] at gu
          refine Rd.lcPush (s4 _ _ hD) nD (sm.trans s4) (by rw [sizeLine_eq]; omega) fun G5 _ off5 => ?_
          rw [Rd.take_snoc hq, List.map_append]
          exact pr.push s4 (c := [i, q]) gu (s4 _ _ hD) off5
        · rintro D acc G nD hD sm pr
          rw [natV_len, List.take_length] at pr
          walk_at "rd"
          have pf' := pf.same sm
          have xl := pf.len
          have al := pr.len
          rw [List.length_map] at al
          have fl : ((List.range i).flatMap fun p => (Mi.front n R [p] (Re.Signs z)).map fun q => [p, q]).length ≤ 4 * i := by
            have : ∀ j, ((List.range j).flatMap fun p => (Mi.front n R [p] (Re.Signs z)).map fun q => [p, q]).length ≤ 4 * j := by
              intro j
              induction j with
              | zero => exact Nat.le_refl _
              | succ j ih =>
                have := Mi.front_len (n := n) (R := R) (cs := Re.Signs z) (S := [j])
                simp only [List.length_cons, List.length_nil] at this
                rw [List.range_succ, List.flatMap_append, List.length_append, List.flatMap_cons, List.flatMap_nil, List.append_nil, List.length_map]
                omega
            exact this i
          refine Rd.cat (sm _ _ gf) hD (by rw [sizeLine_eq]; omega) (Rd.new fun l G2 nl gl s5 => ?_)
          walk_at "rd"
          have s25 := (s3.trans sm).trans s5
          refine ⟨l, _, _, _, _, _, rfl, ?_, ?_, s2.trans s25⟩
          · exact (s2.trans (s3.trans sm)).free nl
          · rw [List.range_succ, List.flatMap_append, List.flatMap_cons, List.flatMap_nil, List.append_nil]
            exact ((pf'.app pr).same s5).cls gl
    · rintro _ H2 ⟨f, o4, o5, o6, o7, o8, rfl, nf, hf, s2⟩
      walk_at "rd"
      exact k f H2 s2 nf hf
theorem tup_t {H H' : Hp} {t c : Addr} (tp : Tape H t c) (s : Rd.But t H H') : ∀ b xs, H b = some (.tup xs) → H' b = some (.tup xs) := fun b xs g => by
  obtain ⟨_, _, _, _, _, _, h, _⟩ := tp
  exact s b _ (fun e => by rw [e, h] at g; cases g) g
theorem PrAt.keep {H G : Hp} {acc : List V} {cs : List (List Nat)} (h : PrAt H acc cs) (s : ∀ b xs, H b = some (.tup xs) → G b = some (.tup xs)) : PrAt G acc cs := let ⟨qs, e, p⟩ := h; ⟨qs, e, paired_mono p fun q c e => s _ _ e⟩
theorem cls_t {H H' : Hp} {t c l : Addr} {cs : List (List Nat)} (tp : Tape H t c) (b : Rd.But t H H') (h : ClsAt H l cs) : ClsAt H' l cs := by
  obtain ⟨xs, g, p⟩ := h.pr
  refine (p.keep (tup_t tp b)).cls (b _ _ (fun e => ?_) g)
  obtain ⟨_, _, _, _, _, _, h, _⟩ := tp
  obtain ⟨qs, rfl, _⟩ := p
  rw [e, h] at g
  have g := congrArg (fun xs : List V => xs[1]?) (HO.lst.inj (Option.some.inj g))
  have g : some (V.int _) = (qs.map V.ref)[1]? := g
  rw [List.getElem?_map] at g
  cases e2 : qs[1]? with
  | none => rw [e2] at g; cases g
  | some q => rw [e2] at g; cases Option.some.inj g
def RoadsN (H : Hp) (d : Addr) (j : Nat) : Prop := ∃ (kvs : List (Key × V)) (R : Str → List (List Nat)), H d = some (.dK kvs) ∧ kvs.length ≤ j ∧ (∀ (c : Str) (v : V), valV kvs (.inr c) = some v → ∃ a, v = .ref a ∧ ClsAt H a (R c)) ∧ ∀ c : Str, valV kvs (.inr c) = none → R c = []
theorem RoadsN.but {H H' : Hp} {t c d : Addr} {j : Nat} (h : RoadsN H d j) (tp : Tape H t c) (b : Rd.But t H H') : RoadsN H' d j := by
  obtain ⟨kvs, R, g, l, h1, h2⟩ := h
  refine ⟨kvs, R, b _ _ (fun e => ?_) g, l, fun c v e => let ⟨a, e1, e2⟩ := h1 c v e; ⟨a, e1, cls_t tp b e2⟩, h2⟩
  obtain ⟨_, _, _, _, _, _, h, _⟩ := tp
  rw [e, h] at g
  cases g
theorem RoadsN.same {H H' : Hp} {d : Addr} {j : Nat} (h : RoadsN H d j) (s : Same H H') : RoadsN H' d j := let ⟨kvs, R, g, l, h1, h2⟩ := h; ⟨kvs, R, s _ _ g, l, fun c v e => let ⟨a, e1, e2⟩ := h1 c v e; ⟨a, e1, e2.same s⟩, h2⟩
theorem RoadsN.up {H : Hp} {d : Addr} {j : Nat} (h : RoadsN H d j) : RoadsN H d (j + 1) := let ⟨kvs, R, g, l, r⟩ := h; ⟨kvs, R, g, by omega, r⟩
theorem RoadsN.put {H G : Hp} {d a : Addr} {j : Nat} {kvs : List (Key × V)} {k : Str} {cs : List (List Nat)} (h : RoadsN H d j) (g0 : H d = some (.dK kvs)) (ha : ClsAt H a cs) (g : G d = some (.dK (putK kvs (.inr k) (.ref a)))) (off : ∀ b, b ≠ d → G b = H b) (len : (putK kvs (.inr k) (.ref a)).length ≤ kvs.length + 1) : RoadsN G d (j + 1) := by
  obtain ⟨kvs', R, g', l, h1, h2⟩ := h
  rw [g0] at g'
  cases g'
  have kc : ∀ {a : Addr} {cs : List (List Nat)}, ClsAt H a cs → ClsAt G a cs := fun {a cs} h => by
    obtain ⟨xs, gx, p⟩ := h.pr
    refine (p.keep fun b ys e => ?_).cls ?_
    · rw [off b (fun n => by rw [n, g0] at e; cases e)]
      exact e
    · rw [off a (fun n => by rw [n, g0] at gx; cases gx)]
      exact gx
  refine ⟨_, fun c => if c = k then cs else R c, g, by omega, fun c v e => ?_, fun c e => ?_⟩
  · rw [valV_put] at e
    by_cases q : c = k
    · rw [if_pos (by rw [q])] at e
      cases e
      exact ⟨a, rfl, by show ClsAt G a (if c = k then cs else R c); rw [if_pos q]; exact kc ha⟩
    · rw [if_neg (fun n => q (Sum.inr.inj n))] at e
      obtain ⟨a', e1, e2⟩ := h1 c v e
      exact ⟨a', e1, by show ClsAt G a' (if c = k then cs else R c); rw [if_neg q]; exact kc e2⟩
  · rw [valV_put] at e
    by_cases q : c = k
    · rw [if_pos (by rw [q])] at e
      cases e
    · rw [if_neg (fun n => q (Sum.inr.inj n))] at e
      show (if c = k then cs else R c) = []
      rw [if_neg q]
      exact h2 c e
theorem dputZ {H : Hp} {a : Addr} {kvs : List (Key × V)} {k : Str} {v : V} {Q : Hp → Prop} (e : H a = some (.dK kvs)) (hl : kvs.length < sizeLine) (h : ∀ G : Hp, G a = some (.dK (putK kvs (.inr k) v)) → (∀ b, b ≠ a → G b = H b) → Q G) : rSetD (.ref a) (.str k) v H Q :=
  ⟨a, _, rfl, DPut.k (k := .inr k) e hl, h _ upd_same fun b hb => upd_ne hb⟩
theorem ok_l_roads (T : Txt w K mg) : FnOk P w K mg base CX0 2 T.f_l_roads T.fd_l_roads ["_law_tape_here", "_law_word_here"] (sp_l_roads K) := by
  refine T.F_l_roads.ok sc_l_roads (fun vs H Q E h => ?_) (fun cdv A outer s H vs Q E hr h => ?_)
  · obtain ⟨t, c, z, rfl, _⟩ := h
    rfl
  · obtain ⟨t, c, z, rfl, tp, zl, k⟩ := h
    refine ⟨_, (pss_cons (ps_set (i := 2) sc_l_roads.nd rfl (.inl rfl) (pe_op op_add pe_int (pe_call (ok_l_pick T) (hr.mono (by decide)) rfl T.g_l_pick T.F_l_pick.kp T.b_l_pick .nil pass0 (pa_cons (pv 0) (pa_cons pe_int pa_nil)))))
  (pss_cons (ps_set (i := 3) sc_l_roads.nd rfl (.inr rfl) (pe_op op_add pe_int (pe_call (ok_l_pick T) (hr.mono (by decide)) rfl T.g_l_pick T.F_l_pick.kp T.b_l_pick .nil pass0 (pa_cons (pv 0) (pa_cons pe_int pa_nil)))))
  (pss_cons (ps_set (i := 4) sc_l_roads.nd rfl (.inl rfl) pe_dnewK)
  (pss_cons (ps_for PassesOwn.never rfl (pi_str (pv 1)) (pg_name (i := 5) sc_l_roads.nd rfl (.inl rfl))
  (pss_one (ps_if (pt_cmp (pc_dnotin (hu_of hr) (pv 5) (pv 4)))
  (pss_cons (ps_set (i := 6) sc_l_roads.nd rfl (.inl rfl) (pe_lst pa_nil))
  (pss_cons (ps_for PassesOwn.never rfl (pi_range1 rfl T.n_range (pa_cons (pv 2) pa_nil)) (pg_name (i := 7) sc_l_roads.nd rfl (.inr rfl))
  (pss_one (ps_set (i := 6) sc_l_roads.nd rfl (.inl rfl) (pe_op op_cat (pv 6) (pe_lc (own := [("_law_q", 8)]) (g := gName 8)  rfl sc_l_roads.nd (pi_range1 rfl T.n_range (pa_cons (pv 2) pa_nil)) (blkOk_by (own := [("_law_q", 8)]) (N := ["_law_tape_here", "_law_word_here", "_law_many", "_law_share", "_law_roads_here", "_law_letter", "_law_pairs_here", "_law_p", "_law_q"]) (sc := defScope s_l_roads) (by decide +kernel)) (fun _ _ _ _ _ => (pg_name (i := 8) sc_l_roads.nd rfl (.inl rfl))) (fun _ _ _ _ _ => pts_one (pt_cmpR op_lt (pe_call (ok_l_pick T) (hr.mono (by decide)) rfl T.g_l_pick T.F_l_pick.kp T.b_l_pick .nil pass0 (pa_cons (pv 0) (pa_cons pe_int pa_nil))) (pv 3) (nomark _))) (fun _ _ _ _ _ => (pe_tup (pa_cons (pv 7) (pa_cons (pv 8) pa_nil)))))))))
  (pss_one (ps_asg (pv 6) (pg_sub (pv 4) (pv 5) (set_dict (hu_of hr)))))))
  pss_nil)))
  (pss_one (ps_ret (pe_tup (pa_cons (pv 2) (pa_cons (pv 4) pa_nil))))))))), ?_⟩
    walk_at "rd"
    refine pickR tp (by decide) (by decide) fun m H1 m0 m1 tp1 b1 => ?_
    walk_at "rd"
    refine pickR tp1 (by decide) (by decide) fun sh H2 sh0 sh1 tp2 b2 => ?_
    walk_at "rd"
    refine Rd.dnew fun d H3 nd gd s3 => ?_
    walk_at "rd"
    refine Rd.forS ?_
    walk_at "rd"
    have hn : ∃ n : Nat, (2 + m : Int) = (n : Nat) ∧ 2 ≤ n ∧ n ≤ 4 := ⟨(2 + m).toNat, by omega, by omega, by omega⟩
    obtain ⟨n, en, n2, n4⟩ := hn
    have dt := (tp2.new nd).1
    have ndH : H d = none := (b1.trans b2).free dt nd
    have zs : z.cps.size ≤ 100 := zl
    rw [en]
    refine for_it walk_str (fun j σ H' => ∃ (o5 o6 o7 o8 : Option V), σ = [some (.ref t), some (.str z), some (.int (n : Nat)), some (.int (2 + sh)), some (.ref d), o5, o6, o7, o8] ∧ RoadsN H' d j ∧ Tape H' t c ∧ Rd.But t H H')
      ⟨_, _, _, _, rfl, ⟨[], fun _ => [], gd, Nat.le_refl _, ⟨fun c v e => absurd (show none = some v from e) (by simp), fun _ _ => rfl⟩⟩, tp2.same s3, (b1.trans b2).same s3⟩ (fun _ _ _ _ _ => trivial) ?_ ?_
    · clear nd gd s3 tp1 tp2 b1 b2 tp m0 m1 en
      rintro j x _ H3 G3 hj ⟨o5, o6, o7, o8, rfl, hR, tp3, b3⟩ ⟨rfl, ch, hc, rfl⟩
      have gd : ∃ kvs, G3 d = some (.dK kvs) := let ⟨kvs, _, g, _⟩ := hR; ⟨kvs, g⟩
      obtain ⟨kvs, gd⟩ := gd
      walk_at "rd"
      refine ⟨d, _, rfl, .inl ⟨_, .inr ⟨#[ch]⟩, .inl gd, rfl, rfl⟩, ?_⟩
      cases ev : valV kvs (.inr ⟨#[ch]⟩) with
      | some v =>
        walk_at "rd"
        refine Rd.yes rfl ?_
        walk_at "rd"
        exact ⟨_, _, _, _, rfl, hR.up, tp3, b3⟩
      | none =>
        walk_at "rd"
        refine Rd.no (fun e => Bool.false_ne_true e) ?_
        walk_at "rd"
        refine ⟨Nat.zero_le _, Rd.new fun a G4 na ga s4 => ?_⟩
        walk_at "rd"
        refine Rd.forS ?_
        walk_at "rd"
        refine ⟨by omega, by omega, ?_⟩
        rw [Int.toNat_natCast]
        refine for_range (lo := 0) (n := n) (fun i σ H' => ∃ (a : Addr) (xs : List V) (cs : List (List Nat)) (o7 o8 : Option V), σ = [some (.ref t), some (.str z), some (.int (n : Nat)), some (.int (2 + sh)), some (.ref d), some (.str ⟨#[ch]⟩), some (.ref a), o7, o8] ∧ H' a = some (.lst xs) ∧ PrAt H' xs cs ∧ xs.length ≤ 4 * i ∧ a ≠ t ∧ H' d = some (.dK kvs) ∧ RoadsN H' d j ∧ Tape H' t c ∧ Rd.But t H H')
          ⟨a, [], [], _, _, rfl, ga, ⟨[], rfl, .nil⟩, Nat.zero_le _, (tp3.new na).1, s4 _ _ gd, hR.same s4, tp3.same s4, b3.same s4⟩ ?_ ?_
        · clear ga na s4 a tp3 b3 hR gd
          rintro i _ G5 hi ⟨a, xs, cs, o7, o8, rfl, ga, pa, xl, at_, gd, hR, tp5, b5⟩
          have hi : i < n := by omega
          walk_at "rd"
          refine ⟨by omega, by omega, ?_⟩
          rw [Int.toNat_natCast]
          refine lcT walk_range tp5 (fun _ _ => trivial) (fun D q acc G => ∃ ds, PrAt G acc ds ∧ acc.length ≤ q) (fun _ _ _ _ _ => ⟨[], ⟨[], rfl, .nil⟩, Nat.le_refl _⟩) ?_ ?_
          · rintro D q x G6 _ acc nD hq hD tp6 b6 ⟨ds, pd, al⟩ ⟨rfl, rfl⟩
            have Dt := (tp5.new nD).1
            walk_at "rd"
            refine ⟨rfl, ?_⟩
            walk_at "rd"
            refine pickR tp6 (by decide) (by decide) fun r G7 r0 r1 tp7 b7 => ?_
            have pd7 := pd.keep (tup_t tp6 b7)
            walk_at "rd"
            by_cases e : r < 2 + sh
            · refine Rd.yes e ?_
              walk_at "rd"
              refine ⟨Nat.le_of_ble_eq_true rfl, Rd.new fun u G8 nu gu s8 => ?_⟩
              have hD8 := s8 _ _ (b7 _ _ Dt hD)
              refine lcPuT hD8 nD tp5 (tp7.same s8) ((b6.trans b7).same s8) (by rw [sizeLine_eq]; omega) fun G9 _ off9 => ?_
              refine ⟨ds ++ [[i, q]], pd7.push s8 ?_ hD8 off9, by rw [List.length_append]; exact Nat.succ_le_succ al⟩
              rw [gu]
              show some (HO.tup [.int (0 + (i : Int)), .int (0 + (q : Int))]) = _
              rw [Int.zero_add, Int.zero_add]
              rfl
            · refine Rd.no e ?_
              exact ⟨acc, b7 _ _ Dt hD, tp7, b6.trans b7, ds, pd7, Nat.le_succ_of_le al⟩
          · rintro D acc G6 nD hD tp6 b6 ⟨ds, pd, al⟩
            walk_at "rd"
            have pa6 := pa.keep (tup_t tp5 b6)
            refine Rd.cat (b6 _ _ at_ ga) hD (by rw [sizeLine_eq]; omega) (Rd.new fun l G7 nl gl s7 => ?_)
            walk_at "rd"
            exact ⟨l, xs ++ acc, cs ++ ds, _, _, rfl, gl, (pa6.app pd).same s7, by rw [List.length_append]; omega, (tp6.new nl).1, s7 _ _ (b6 _ _ (fun e => by obtain ⟨_, _, _, _, _, _, h, _⟩ := tp5; rw [e, h] at gd; cases gd) gd), (hR.but tp5 b6).same s7, tp6.same s7, (b5.trans b6).same s7⟩
        · rintro _ G5 ⟨a, xs, cs, o7, o8, rfl, ga, pa, xl, at_, gd, hR, tp5, b5⟩
          walk_at "rd"
          have kl : kvs.length ≤ j := by
            obtain ⟨kvs', _, g', l, _⟩ := hR
            rw [gd] at g'
            cases g'
            exact l
          refine dputZ gd (by rw [sizeLine_eq]; omega) fun G g off => ?_
          walk_at "rd"
          refine ⟨_, _, _, _, rfl, hR.put gd (pa.cls ga) g off (length_putK _ _ _), tp5.off dt (fun e => ?_) off, fun b o bt e => ?_⟩
          · obtain ⟨_, _, _, _, _, _, _, h, _⟩ := tp5
            rw [e, h] at gd
            cases gd
          · rw [off b (ne_of_none e ndH)]
            exact b5 b o bt e
    · rintro _ H3 ⟨o5, o6, o7, o8, rfl, hR, tp3, b3⟩
      walk_at "rd"
      refine ⟨Nat.le_of_ble_eq_true rfl, Rd.new fun p H4 np gp s4 => ?_⟩
      obtain ⟨kvs, R, g, l, h1, h2⟩ := hR.same s4
      exact k p d n R H4 n2 n4 gp ⟨kvs, g, h1, h2⟩ (tp3.same s4) (b3.same s4)
theorem ok_l_holds (T : Txt w K mg) : FnOk P w K mg base CX0 2 T.f_l_holds T.fd_l_holds ["_law_many", "_law_roads_here", "_law_clauses_here"] (sp_l_holds K) := by
  refine T.F_l_holds.ok sc_l_holds (fun vs H Q E h => ?_) (fun cdv A outer s H vs Q E hr h => ?_)
  · obtain ⟨d, p, L, n, R, rows, last, rfl, _⟩ := h
    rfl
  · obtain ⟨d, p, L, n, R, rows, last, rfl, n1, n4, hR, gp, hL, rl, ll, rk, k⟩ := h
    refine ⟨_, (pss_cons (ps_asg (pv 2) (pg_tup rfl (pgs_cons (pg_name (i := 3) sc_l_holds.nd rfl (.inl rfl)) (pgs_cons (pg_name (i := 4) sc_l_holds.nd rfl (.inl rfl)) pgs_nil))))
  (pss_cons (ps_set (i := 5) sc_l_holds.nd rfl (.inl rfl) (pe_lst pa_nil))
  (pss_cons (ps_set (i := 6) sc_l_holds.nd rfl (.inr rfl) (pe_call (ok_l_pairs T) (hr.mono (by decide)) rfl T.g_l_pairs T.F_l_pairs.kp T.b_l_pairs .nil pass0 (pa_cons (pv 0) (pa_cons (pv 1) (pa_cons (pv 4) pa_nil)))))
  (pss_cons (ps_for PassesOwn.never rfl (pi_range1 rfl T.n_range (pa_cons (pv 0) pa_nil)) (pg_name (i := 7) sc_l_holds.nd rfl (.inr rfl))
  (pss_cons (ps_set (i := 8) sc_l_holds.nd rfl (.inr rfl) (pe_lc (own := [("_law_p", 12)]) (g := gName 12)  rfl sc_l_holds.nd (pi_range1 rfl T.n_range (pa_cons (pv 0) pa_nil)) (blkOk_by (own := [("_law_p", 12)]) (N := ["_law_many", "_law_roads_here", "_law_clauses_here", "_law_rows", "_law_last", "_law_found", "_law_ends", "_law_y", "_law_good", "_law_word_here", "_law_watch_here", "_law_pairs_here", "_law_p", "_law_x", "_law_q"]) (sc := defScope s_l_holds) (by decide +kernel)) (fun _ _ _ _ _ => (pg_name (i := 12) sc_l_holds.nd rfl (.inl rfl))) (fun _ _ _ _ _ => pts_one (pt_cmpR (r := rInD K) (op_inD (Rk.u65 hr)) (pe_tup (pa_cons (pv 12) (pa_cons (pv 7) pa_nil))) (pv 6) (by rfl))) (fun _ _ _ _ _ => (pv 12))))
  (pss_cons (ps_for PassesOwn.never rfl (pi_list (pe_revL (pv 3))) (pg_tup rfl (pgs_cons (pg_name (i := 9) sc_l_holds.nd rfl (.inl rfl)) (pgs_cons (pg_name (i := 10) sc_l_holds.nd rfl (.inl rfl)) pgs_nil)))
  (pss_cons (ps_set (i := 11) sc_l_holds.nd rfl (.inr rfl) (pe_call (ok_l_pairs T) (hr.mono (by decide)) rfl T.g_l_pairs T.F_l_pairs.kp T.b_l_pairs .nil pass0 (pa_cons (pv 0) (pa_cons (pv 1) (pa_cons (pv 10) pa_nil)))))
  (pss_one (ps_if (pt_cmpR op_eq (pv 9) pe_str (nomark _))
  (pss_one (ps_set (i := 8) sc_l_holds.nd rfl (.inr rfl) (pe_lc (own := [("_law_p", 12)]) (g := gName 12)  rfl sc_l_holds.nd (pi_range1 rfl T.n_range (pa_cons (pv 0) pa_nil)) (blkOk_by (own := [("_law_p", 12)]) (N := ["_law_many", "_law_roads_here", "_law_clauses_here", "_law_rows", "_law_last", "_law_found", "_law_ends", "_law_y", "_law_good", "_law_word_here", "_law_watch_here", "_law_pairs_here", "_law_p", "_law_x", "_law_q"]) (sc := defScope s_l_holds) (by decide +kernel)) (fun _ _ _ _ _ => (pg_name (i := 12) sc_l_holds.nd rfl (by first | exact .inl rfl | exact .inr rfl))) (fun _ _ _ _ _ => pts_one (pt_cmpR op_gt (pe_callB (id := "len") (r := Rd.nLen K) Rd.c_len (by rfl) T.n_len (by decide +kernel) (pa_cons (by exact (pe_lc (own := [("_law_q", 14)]) (g := gName 14)  rfl sc_l_holds.nd (Ry.pi_listK (K := K) rfl (pv 8)) (blkOk_by (own := [("_law_q", 14)]) (N := ["_law_many", "_law_roads_here", "_law_clauses_here", "_law_rows", "_law_last", "_law_found", "_law_ends", "_law_y", "_law_good", "_law_word_here", "_law_watch_here", "_law_pairs_here", "_law_p", "_law_x", "_law_q"]) (by rfl)) (fun _ _ _ _ _ => (pg_name (i := 14) sc_l_holds.nd rfl (by first | exact .inl rfl | exact .inr rfl))) (fun _ _ _ _ _ => pts_one (pt_cmpR (r := rInD K) (op_inD (Rk.u65 hr)) (pe_tup (pa_cons (pv 12) (pa_cons (pv 14) pa_nil))) (pv 11) (by rfl))) (fun _ _ _ _ _ => (pv 14)))) pa_nil)) pe_int (nomark _))) (fun _ _ _ _ _ => (pv 12)))))
  (pss_one (ps_set (i := 8) sc_l_holds.nd rfl (.inr rfl) (pe_lc (own := [("_law_p", 12)]) (g := gName 12)  rfl sc_l_holds.nd (pi_range1 rfl T.n_range (pa_cons (pv 0) pa_nil)) (blkOk_by (own := [("_law_p", 12)]) (N := ["_law_many", "_law_roads_here", "_law_clauses_here", "_law_rows", "_law_last", "_law_found", "_law_ends", "_law_y", "_law_good", "_law_word_here", "_law_watch_here", "_law_pairs_here", "_law_p", "_law_x", "_law_q"]) (sc := defScope s_l_holds) (by decide +kernel)) (fun _ _ _ _ _ => (pg_name (i := 12) sc_l_holds.nd rfl (by first | exact .inl rfl | exact .inr rfl))) (fun _ _ _ _ _ => pts_one (pt_cmpR op_eq (pe_callB (id := "len") (r := Rd.nLen K) Rd.c_len (by rfl) T.n_len (by decide +kernel) (pa_cons (by exact (pe_lc (own := [("_law_q", 14)]) (g := gName 14)  rfl sc_l_holds.nd (pi_range1 rfl T.n_range (pa_cons (pv 0) pa_nil)) (blkOk_by (own := [("_law_q", 14)]) (N := ["_law_many", "_law_roads_here", "_law_clauses_here", "_law_rows", "_law_last", "_law_found", "_law_ends", "_law_y", "_law_good", "_law_word_here", "_law_watch_here", "_law_pairs_here", "_law_p", "_law_x", "_law_q"]) (by rfl)) (fun _ _ _ _ _ => (pg_name (i := 14) sc_l_holds.nd rfl (by first | exact .inl rfl | exact .inr rfl))) (fun _ _ _ _ _ => pts_one (PW.pt (pw_and (pt_cmpR (r := rInD K) (op_inD (Rk.u65 hr)) (pe_tup (pa_cons (pv 14) (pa_cons (pv 12) pa_nil))) (pv 11) (by rfl)) (pw_and1 (pt_cmpR (r := rIn K true) op_notIn_seq (pv 14) (pv 8) (by rfl)))))) (fun _ _ _ _ _ => (pv 14)))) pa_nil)) pe_int (nomark _))) (fun _ _ _ _ _ => (pv 12)))))))))
  (pss_one (ps_set (i := 5) sc_l_holds.nd rfl (.inl rfl) (pe_op op_cat (pv 5) (pe_lc (own := [("_law_x", 13)]) (g := gName 13) (tt := tYes) rfl sc_l_holds.nd (pi_list (pv 8)) (blkOk_by (own := [("_law_x", 13)]) (N := ["_law_many", "_law_roads_here", "_law_clauses_here", "_law_rows", "_law_last", "_law_found", "_law_ends", "_law_y", "_law_good", "_law_word_here", "_law_watch_here", "_law_pairs_here", "_law_p", "_law_x", "_law_q"]) (sc := defScope s_l_holds) (by decide +kernel)) (fun _ _ _ _ _ => (pg_name (i := 13) sc_l_holds.nd rfl (.inl rfl))) (fun _ _ _ _ _ => pts_nil) (fun _ _ _ _ _ => (pe_tup (pa_cons (pv 13) (pa_cons (pv 7) pa_nil)))))))))))
  (pss_one (ps_ret (pe_callB (id := "sorted") (r := Rs.rSortD K) (Rs.cr_sortD hr.units) (by rfl) T.n_sorted (by decide +kernel) (pa_cons (pv 5) pa_nil)))))))), ?_⟩
    walk_at "rd"
    refine Rd.tupT (.of gp) rfl ?_
    walk_at "rd"
    refine ⟨Nat.zero_le _, Rd.new fun f G1 nf gf s1 => ?_⟩
    walk_at "rd"
    refine ⟨d, n, R, last, rfl, n1, n4, hR.same s1, ll, fun E G2 s2 nE hE => ?_⟩
    walk_at "rd"
    have nfE : f ≠ E := ne_of_none gf nE
    refine Rd.forS ?_
    walk_at "rd"
    refine ⟨by omega, by omega, ?_⟩
    rw [Int.toNat_natCast]
    have s12 := s1.trans s2
    have gf2 := s2 _ _ gf
    refine for_range (lo := 0) (n := n) (fun y σ H' => ∃ (f : Addr) (o7 o8 o9 o10 o11 o12 o13 o14 : Option V), σ = [some (.int (n : Nat)), some (.ref d), some (.ref p), some (.ref L), some (.str last), some (.ref f), some (.ref E), o7, o8, o9, o10, o11, o12, o13, o14] ∧ H f = none ∧ ClsAt H' f ((List.range y).flatMap fun y => (Mi.good n R (Re.Signs last) y (rowsM rows)).map fun x => [x, y]) ∧ Same G2 H')
      ⟨f, _, _, _, _, _, _, _, _, rfl, nf, ⟨[], gf2, .nil⟩, Same.refl _⟩ ?_ ?_
    · clear nf gf gf2 nfE f
      rintro y _ H3 hy ⟨f, o7, o8, o9, o10, o11, o12, o13, o14, rfl, nf, hf, s3⟩
      have hy : y < n := by omega
      walk_at "rd"
      refine ⟨by omega, by omega, ?_⟩
      rw [Int.toNat_natCast]
      have hE3 := hE.same s3
      refine Rd.lcS walk_range (fun _ _ => trivial) (fun D i acc _ => acc = natV ((List.range i).filter fun p => decide ([p, y] ∈ Mi.pairsOf n R (Re.Signs last)))) (fun _ _ _ _ _ => rfl) ?_ ?_
      · rintro D i x G _ acc nD hi hD sm rfl ⟨rfl, rfl⟩
        walk_at "rd"
        refine ⟨rfl, ?_⟩
        walk_at "rd"
        refine ⟨Nat.le_of_ble_eq_true rfl, Rd.new fun u G4 nu gu s4 => ?_⟩
        have gu' : G4 u = some (.tup (natV [i, y])) := by
          rw [gu]
          show some (HO.tup [.int (0 + (i : Int)), .int (0 + (y : Int))]) = _
          rw [Int.zero_add, Int.zero_add]
          rfl
        walk_at "rd"
        refine clsIn gu' (hE3.same (sm.trans s4)) ?_
        walk_at "rd"
        have al : ((List.range i).filter fun p => decide ([p, y] ∈ Mi.pairsOf n R (Re.Signs last))).length ≤ 4 := by
          refine Nat.le_trans (List.length_filter_le _ _) ?_
          rw [List.length_range]
          omega
        by_cases e : [i, y] ∈ Mi.pairsOf n R (Re.Signs last)
        · refine Rd.yes e ?_
          walk_at "rd"
          refine Rd.lcPush (s4 _ _ hD) nD (sm.trans s4) (by rw [natV_len, sizeLine_eq]; omega) fun G5 _ _ => ?_
          rw [List.range_succ, filt_snoc, if_pos (decide_eq_true e), nat_snoc]
          show _ ++ [V.int (0 + (i : Int))] = _
          rw [Int.zero_add]
        · refine Rd.no e ?_
          refine ⟨_, s4 _ _ hD, sm.trans s4, ?_⟩
          dsimp only
          rw [List.range_succ, filt_snoc, if_neg (by rw [decide_eq_false e]; exact Bool.false_ne_true), List.append_nil]
      rintro g acc H4 ng hg s4 rfl
      walk_at "rd"
      refine Rd.forS ?_
      walk_at "rd"
      obtain ⟨rs, gL, rsl, ra⟩ := hL
      have sH4 := s12.trans (s3.trans s4)
      refine ⟨L, _, rfl, .of (sH4 _ _ gL), Rd.new fun L2 H5 nL2 gL2 s5 => ?_⟩
      walk_at "rd"
      have rev : ∀ j, j < rows.length → ∀ x, ((rs.map V.ref).reverse)[j]? = some x → ∃ r s, x = .ref r ∧ rows[rows.length - 1 - j]? = some s ∧ H r = some (.tup [.str s.1, .str s.2]) := by
        intro j hj x hx
        rw [List.getElem?_reverse (by rw [List.length_map, rsl]; exact hj), List.length_map, rsl, List.getElem?_map] at hx
        obtain ⟨r, hr, rfl⟩ := Option.map_eq_some_iff.mp hx
        have hs : rows[rows.length - 1 - j]? = some rows[rows.length - 1 - j] := List.getElem?_eq_getElem (by omega)
        exact ⟨r, _, rfl, hs, ra _ _ _ hr hs⟩
      have xl : ((rs.map V.ref).reverse).length = rows.length := by rw [List.length_reverse, List.length_map, rsl]
      refine ⟨⟨_, .of gL2⟩, for_list (K := K) (a := L2) (xs := (rs.map V.ref).reverse) (fun j σ H' => ∃ (g : Addr) (o9 o10 o11 o12 o13 o14 : Option V), σ = [some (.int (n : Nat)), some (.ref d), some (.ref p), some (.ref L), some (.str last), some (.ref f), some (.ref E), some (.int (0 + (y : Int))), some (.ref g), o9, o10, o11, o12, o13, o14] ∧ H' g = some (.lst (natV (Mi.good n R (Re.Signs last) y ((rowsM rows).drop (rows.length - j))))) ∧ Same H5 H')
        ⟨g, _, _, _, _, _, _, rfl, by
          rw [Nat.sub_zero, List.drop_eq_nil_of_le (by unfold rowsM; rw [List.length_map]; exact Nat.le_refl _)]
          exact s5 _ _ hg, Same.refl _⟩ (fun i σ H' _ ⟨_, _, _, _, _, _, _, _, _, s⟩ => .of (s _ _ gL2)) ?_ ?_⟩
      · clear hg ng g
        rintro j x _ H6 hx ⟨g, o9, o10, o11, o12, o13, o14, rfl, hg, s6⟩
        have hj : j < rows.length := by rw [← xl]; exact (List.getElem?_eq_some_iff.mp hx).1
        obtain ⟨r, s, rfl, hs, hr⟩ := rev j hj x hx
        have sH6 := (sH4.trans s5).trans s6
        have hr6 := sH6 _ _ hr
        have hd : (rowsM rows).drop (rows.length - (j + 1)) = (decide (s.1 = ("some" : Str)), Re.Signs s.2) :: (rowsM rows).drop (rows.length - j) := by
          have e : (rowsM rows)[rows.length - 1 - j]? = some (decide (s.1 = ("some" : Str)), Re.Signs s.2) := by
            unfold rowsM
            rw [List.getElem?_map, hs]
            rfl
          have l := (List.getElem?_eq_some_iff.mp e).1
          rw [show rows.length - (j + 1) = rows.length - 1 - j by omega, List.drop_eq_getElem_cons l, (List.getElem?_eq_some_iff.mp e).2, show rows.length - 1 - j + 1 = rows.length - j by omega]
        rw [hd]
        obtain ⟨s100, sk⟩ := rk s (List.mem_of_getElem? hs)
        have gl4 := Mi.good_len (n := n) (R := R) (last := Re.Signs last) (y := y) (rows := (rowsM rows).drop (rows.length - j))
        generalize (rowsM rows).drop (rows.length - j) = rest at hg gl4
        clear hd
        refine Rd.tupT (.of hr6) rfl ?_
        walk_at "rd"
        refine ⟨d, n, R, s.2, rfl, n1, n4, hR.same sH6, s100, fun W H7 s7 nW hW => ?_⟩
        have hg7 := s7 _ _ hg
        walk_at "rd"
        by_cases c : s.1 = ("some" : Str)
        · refine Rd.yes c ?_
          rw [decide_eq_true c]
          walk_at "rd"
          refine ⟨by omega, by omega, ?_⟩
          rw [Int.toNat_natCast]
          refine Rd.lcS walk_range (fun _ _ => trivial) (fun D m acc _ => acc = natV ((List.range m).filter fun p => decide (∃ q ∈ Mi.good n R (Re.Signs last) y rest, [p, q] ∈ Mi.pairsOf n R (Re.Signs s.2)))) (fun _ _ _ _ _ => rfl) ?_ ?_
          · generalize Mi.good n R (Re.Signs last) y rest = S at hg7 gl4
            generalize Mi.pairsOf n R (Re.Signs s.2) = M at hW
            rintro D m x G _ acc nD hm hD sm rfl ⟨rfl, rfl⟩
            walk_at "rd"
            refine ⟨rfl, ?_⟩
            walk_at "rd"
            refine ⟨⟨_, .of (sm _ _ hg7)⟩, ?_⟩
            refine Rd.lcS walk_list (fun _ s => .of (s _ _ (sm _ _ hg7))) (fun D2 i acc _ => acc = natV ((S.take i).filter fun q => decide ([m, q] ∈ M))) (fun _ _ _ _ _ => rfl) ?_ ?_
            · rintro D2 i2 x G2 _ acc2 nD2 hi2 hD2 sm2 rfl ⟨rfl, hx⟩
              obtain ⟨q, hq, rfl⟩ := nat_get hx
              walk_at "rd"
              refine ⟨rfl, ?_⟩
              walk_at "rd"
              refine ⟨Nat.le_of_ble_eq_true rfl, Rd.new fun u G3 nu gu s4 => ?_⟩
              have gu' : G3 u = some (.tup (natV [m, q])) := by
                rw [gu]
                show some (HO.tup [.int (0 + (m : Int)), .int (q : Int)]) = _
                rw [Int.zero_add]
                rfl
              walk_at "rd"
              refine clsIn gu' (hW.same (sm.trans (sm2.trans s4))) ?_
              walk_at "rd"
              have al : ((S.take i2).filter fun q => decide ([m, q] ∈ M)).length ≤ 4 := by
                refine Nat.le_trans (List.length_filter_le _ _) ?_
                rw [List.length_take]
                omega
              by_cases e : [m, q] ∈ M
              · refine Rd.yes e ?_
                walk_at "rd"
                refine Rd.lcPush (s4 _ _ hD2) nD2 (sm2.trans s4) (by rw [natV_len, sizeLine_eq]; omega) fun G5 _ _ => ?_
                rw [Rd.take_snoc hq, filt_snoc, if_pos (decide_eq_true e), nat_snoc]
              · refine Rd.no e ?_
                refine ⟨_, s4 _ _ hD2, sm2.trans s4, ?_⟩
                dsimp only
                rw [Rd.take_snoc hq, filt_snoc, if_neg (by rw [decide_eq_false e]; exact Bool.false_ne_true), List.append_nil]
            · rintro D2 acc2 G2 nD2 hD2 sm2 rfl
              rw [natV_len, List.take_length] at hD2
              walk_at "rd"
              refine Rd.len (.inl (.of hD2)) ?_
              rw [natV_len]
              walk_at "rd"
              have ql : ((List.range m).filter fun p => decide (∃ q ∈ S, [p, q] ∈ M)).length ≤ 4 := by
                refine Nat.le_trans (List.length_filter_le _ _) ?_
                rw [List.length_range]
                omega
              by_cases e : ∃ q ∈ S, [m, q] ∈ M
              · have pos : 0 < (S.filter fun q => decide ([m, q] ∈ M)).length := by
                  obtain ⟨q, h1, h2⟩ := e
                  exact List.length_pos_of_mem (List.mem_filter.mpr ⟨h1, decide_eq_true h2⟩)
                refine Rd.yes (by omega) ?_
                walk_at "rd"
                refine Rd.lcPush (sm2 _ _ hD) nD (sm.trans sm2) (by rw [natV_len, sizeLine_eq]; omega) fun G5 _ _ => ?_
                rw [List.range_succ, filt_snoc, if_pos (decide_eq_true e), nat_snoc]
                show _ ++ [V.int (0 + (m : Int))] = _
                rw [Int.zero_add]
              · have zero : (S.filter fun q => decide ([m, q] ∈ M)).length = 0 := by
                  rw [List.length_eq_zero_iff, List.filter_eq_nil_iff]
                  exact fun q h1 h2 => e ⟨q, h1, of_decide_eq_true h2⟩
                refine Rd.no (by omega) ?_
                refine ⟨_, sm2 _ _ hD, sm.trans sm2, ?_⟩
                dsimp only
                rw [List.range_succ, filt_snoc, if_neg (by rw [decide_eq_false e]; exact Bool.false_ne_true), List.append_nil]
          · rintro D acc G nD hD sm rfl
            walk_at "rd"
            exact ⟨D, _, _, _, _, _, _, rfl, hD, (s6.trans s7).trans sm⟩
        · refine Rd.no c ?_
          rw [decide_eq_false c]
          walk_at "rd"
          refine ⟨by omega, by omega, ?_⟩
          rw [Int.toNat_natCast]
          refine Rd.lcS walk_range (fun _ _ => trivial) (fun D m acc _ => acc = natV ((List.range m).filter fun p => decide (∀ q ∈ List.range n, [q, p] ∈ Mi.pairsOf n R (Re.Signs s.2) → q ∈ Mi.good n R (Re.Signs last) y rest))) (fun _ _ _ _ _ => rfl) ?_ ?_
          · generalize Mi.good n R (Re.Signs last) y rest = S at hg7 gl4
            generalize Mi.pairsOf n R (Re.Signs s.2) = M at hW
            rintro D m x _ G acc nD hm hD sm rfl ⟨rfl, rfl⟩
            walk_at "rd"
            refine ⟨rfl, ?_⟩
            walk_at "rd"
            refine ⟨by omega, by omega, ?_⟩
            rw [Int.toNat_natCast]
            refine Rd.lcS walk_range (fun _ _ => trivial) (fun D2 i acc _ => acc = natV ((List.range i).filter fun q => decide ([q, m] ∈ M ∧ q ∉ S))) (fun _ _ _ _ _ => rfl) ?_ ?_
            · rintro D2 q x G2 _ acc2 nD2 hi2 hD2 sm2 rfl ⟨rfl, rfl⟩
              walk_at "rd"
              refine ⟨rfl, ?_⟩
              walk_at "rd"
              refine ⟨Nat.le_of_ble_eq_true rfl, Rd.new fun u G3 nu gu s4 => ?_⟩
              have gu' : G3 u = some (.tup (natV [q, m])) := by
                rw [gu]
                show some (HO.tup [.int (0 + (q : Int)), .int (0 + (m : Int))]) = _
                rw [Int.zero_add, Int.zero_add]
                rfl
              walk_at "rd"
              refine clsIn gu' (hW.same (sm.trans (sm2.trans s4))) ?_
              walk_at "rd"
              have al : ((List.range q).filter fun q => decide ([q, m] ∈ M ∧ q ∉ S)).length ≤ 4 := by
                refine Nat.le_trans (List.length_filter_le _ _) ?_
                rw [List.length_range]
                omega
              have no : ¬ ([q, m] ∈ M ∧ q ∉ S) → Rd.LcP D2 G (fun i acc _ => acc = natV ((List.range i).filter fun q => decide ([q, m] ∈ M ∧ q ∉ S))) (q + 1) G3 := fun e => by
                refine ⟨_, s4 _ _ hD2, sm2.trans s4, ?_⟩
                dsimp only
                rw [List.range_succ, filt_snoc, if_neg (by rw [decide_eq_false e]; exact Bool.false_ne_true), List.append_nil]
              by_cases e : [q, m] ∈ M
              · refine Rd.yes e ?_
                walk_at "rd"
                dsimp only
                rw [Int.zero_add]
                refine Rd.inIntsN (ws := S.map fun i : Nat => (i : Int)) (.inl (.of (s4 _ _ (sm2 _ _ (sm _ _ hg7))))) ?_
                have nd : decide ((q : Int) ∈ S.map fun i : Nat => (i : Int)) = decide (q ∈ S) := decide_eq_decide.mpr ⟨fun h => by
                  obtain ⟨r, h1, h2⟩ := List.mem_map.mp h
                  rw [← show r = q by omega]
                  exact h1, fun h => List.mem_map.mpr ⟨q, h, rfl⟩⟩
                rw [nd]
                walk_at "rd"
                by_cases e2 : q ∈ S
                · refine Rd.yes e2 ?_
                  exact no fun h => h.2 e2
                · refine Rd.no e2 ?_
                  walk_at "rd"
                  refine Rd.lcPush (s4 _ _ hD2) nD2 (sm2.trans s4) (by rw [natV_len, sizeLine_eq]; omega) fun G5 _ _ => ?_
                  rw [List.range_succ, filt_snoc, if_pos (decide_eq_true ⟨e, e2⟩), nat_snoc]
                  try rfl
              · refine Rd.no e ?_
                exact no fun h => e h.1
            · rintro D2 acc2 G2 nD2 hD2 sm2 rfl
              walk_at "rd"
              refine Rd.len (.inl (.of hD2)) ?_
              rw [natV_len]
              walk_at "rd"
              have ql : ((List.range m).filter fun p => decide (∀ q ∈ List.range n, [q, p] ∈ M → q ∈ S)).length ≤ 4 := by
                refine Nat.le_trans (List.length_filter_le _ _) ?_
                rw [List.length_range]
                omega
              by_cases e : ∀ q ∈ List.range n, [q, m] ∈ M → q ∈ S
              · have zero : ((List.range n).filter fun q => decide ([q, m] ∈ M ∧ q ∉ S)).length = 0 := by
                  rw [List.length_eq_zero_iff, List.filter_eq_nil_iff]
                  exact fun q h1 h2 => (of_decide_eq_true h2).2 (e q h1 (of_decide_eq_true h2).1)
                refine Rd.yes (by omega) ?_
                walk_at "rd"
                refine Rd.lcPush (sm2 _ _ hD) nD (sm.trans sm2) (by rw [natV_len, sizeLine_eq]; omega) fun G5 _ _ => ?_
                rw [List.range_succ, filt_snoc, if_pos (decide_eq_true e), nat_snoc]
                show _ ++ [V.int (0 + (m : Int))] = _
                rw [Int.zero_add]
              · have pos : 0 < ((List.range n).filter fun q => decide ([q, m] ∈ M ∧ q ∉ S)).length := by
                  obtain ⟨q, h⟩ := Classical.not_forall.mp e
                  obtain ⟨h1, h⟩ := Classical.not_imp.mp h
                  obtain ⟨h2, h3⟩ := Classical.not_imp.mp h
                  exact List.length_pos_of_mem (List.mem_filter.mpr ⟨h1, decide_eq_true ⟨h2, h3⟩⟩)
                refine Rd.no (by omega) ?_
                refine ⟨_, sm2 _ _ hD, sm.trans sm2, ?_⟩
                dsimp only
                rw [List.range_succ, filt_snoc, if_neg (by rw [decide_eq_false e]; exact Bool.false_ne_true), List.append_nil]
          · rintro D acc G nD hD sm rfl
            walk_at "rd"
            exact ⟨D, _, _, _, _, _, _, rfl, hD, (s6.trans s7).trans sm⟩
      · rintro _ H6 ⟨g, o9, o10, o11, o12, o13, o14, rfl, hg, s6⟩
        rw [xl, Nat.sub_self, List.drop_zero] at hg
        have gl4 := Mi.good_len (n := n) (R := R) (last := Re.Signs last) (y := y) (rows := rowsM rows)
        have sH6 := (s4.trans s5).trans s6
        obtain ⟨xs, gf, pf⟩ := ClsAt.pr (hf.same sH6)
        walk_at "rd"
        refine ⟨⟨_, .of hg⟩, ?_⟩
        refine Rd.lcS walk_list (fun _ s => .of (s _ _ hg)) (fun D j acc G => PrAt G acc (((Mi.good n R (Re.Signs last) y (rowsM rows)).take j).map fun x => [x, y])) (fun _ _ _ _ _ => ⟨[], rfl, .nil⟩) ?_ ?_
        · rintro D j x G _ acc nD hj hD sm pr ⟨rfl, hx⟩
          obtain ⟨q, hq, rfl⟩ := nat_get hx
          walk_at "rd"
          refine ⟨rfl, ?_⟩
          walk_at "rd"
          refine ⟨Nat.le_of_ble_eq_true rfl, Rd.new fun u G2 nu gu s7 => ?_⟩
          have al := pr.len
          rw [List.length_map, List.length_take] at al
          rw [Int.zero_add] at gu
          refine Rd.lcPush (s7 _ _ hD) nD (sm.trans s7) (by rw [sizeLine_eq]; omega) fun G5 _ off5 => ?_
          rw [Rd.take_snoc hq, List.map_append]
          exact pr.push s7 (c := [q, y]) gu (s7 _ _ hD) off5
        · rintro D acc G nD hD sm pr
          rw [natV_len, List.take_length] at pr
          walk_at "rd"
          have pf' := pf.same sm
          have xl := pf.len
          have al := pr.len
          rw [List.length_map] at al
          have fl : ∀ j, ((List.range j).flatMap fun y => (Mi.good n R (Re.Signs last) y (rowsM rows)).map fun x => [x, y]).length ≤ 4 * j := by
            intro j
            induction j with
            | zero => exact Nat.le_refl _
            | succ j ih =>
              have := Mi.good_len (n := n) (R := R) (last := Re.Signs last) (y := j) (rows := rowsM rows)
              rw [List.range_succ, List.flatMap_append, List.length_append, List.flatMap_cons, List.flatMap_nil, List.append_nil, List.length_map]
              omega
          have := fl y
          refine Rd.cat (sm _ _ gf) hD (by rw [sizeLine_eq]; omega) (Rd.new fun l G2 nl gl s8 => ?_)
          walk_at "rd"
          have sA := (s3.trans (sH6.trans sm)).trans s8
          refine ⟨l, _, _, _, _, _, _, _, _, rfl, ?_, ?_, sA⟩
          · exact (s12.trans (s3.trans (sH6.trans sm))).free nl
          · rw [List.range_succ, List.flatMap_append, List.flatMap_cons, List.flatMap_nil, List.append_nil]
            exact ((pf'.app pr).same s8).cls gl
    · rintro _ H3 ⟨f, o7, o8, o9, o10, o11, o12, o13, o14, rfl, nf, hf, s3⟩
      walk_at "rd"
      obtain ⟨xs, gf, qs, rfl, pf⟩ := hf.pr
      have ne : ∀ c ∈ Mi.holds n R (Re.Signs last) (rowsM rows), c ≠ [] := fun c m e => by
        obtain ⟨y, _, m⟩ := List.mem_flatMap.mp m
        obtain ⟨x, _, e2⟩ := List.mem_map.mp m
        rw [← e2] at e
        cases e
      refine Rw.sortD tupD (fun x c => TupAt H3 x c) (.of gf) (tups_each pf) (keys_cls ne) fun out l G ho nl gl sG => ?_
      obtain ⟨ps, rfl, pp⟩ := each_tups sG ho
      exact k l G ((s12.trans s3).trans sG) ((s12.trans s3).free nl) ⟨ps, gl, pp⟩

end
end W

namespace W
open PySem PySem.Spec PyProof.Rows L2
section
variable {P : Program} {w : World} {K : PySem.W.Frag} {mg : Str → Option Value} {base : Heap}
/-! ### rules that follow a word, as rows -/
theorem signs_cut {z : Str} {a b : Nat} (h : a ≤ b) (hb : b ≤ z.length) : Re.Signs (cutS z (some (a : Int)) (some (b : Int))) = ((Re.Signs z).drop a).take (b - a) := by
  have e1 : HT.sIx z.length 0 (some (a : Int)) = a := by rw [HT.sIx_nat]; omega
  have e2 : HT.sIx z.length z.length (some (b : Int)) = b := by rw [HT.sIx_nat]; omega
  unfold Re.Signs cutS
  simp only [e1, e2, List.map_take, List.map_drop]
theorem signs_len (z : Str) : (Re.Signs z).length = z.length := by
  unfold Re.Signs
  rw [List.length_map, Array.length_toList]
  rfl
theorem cw_on {s : Str × Str} (h : s.1 = ("on" : Str)) : (decide ((cwOf s).1 = ("some" : Str)), Re.Signs (cwOf s).2) = (true, Re.Signs s.2) := by
  unfold cwOf
  rw [if_pos h]
  rfl
theorem cw_back {s : Str × Str} (h : s.1 ≠ ("on" : Str)) : (decide ((cwOf s).1 = ("some" : Str)), Re.Signs (cwOf s).2) = (false, Re.Signs s.2) := by
  unfold cwOf
  rw [if_neg h, show decide (("all" : Str) = ("some" : Str)) = false by decide +kernel]
theorem link_of {z : Str} : ∀ (P : List Nat) (s t : Nat), (∀ x ∈ s :: t :: P, x ≤ z.length) → (s :: t :: P).getLast? = some z.length → (s :: t :: P).Nodup →
    ∃ l, (stepsOf z (s :: t :: P))[(stepsOf z (s :: t :: P)).length - 1]? = some l ∧ Mi.Link (Re.Signs z) s (rowsM ((stepsOf z (s :: t :: P)).dropLast.map cwOf)) (Re.Signs l.2)
  | [], s, t, hm, hl, nd => by
    have et : t = z.length := Option.some.inj hl
    have hs := hm s (List.mem_cons_self ..)
    have ne : s ≠ t := fun e => by rw [e] at nd; simp at nd
    refine ⟨stepOf z s t, rfl, ?_⟩
    have e : Re.Signs (stepOf z s t).2 = (Re.Signs z).drop s := by
      unfold stepOf
      rw [if_pos (by omega), et]
      show Re.Signs (cutS z (some (s : Int)) (some ((z.length : Nat) : Int))) = _
      rw [signs_cut hs (Nat.le_refl _)]
      exact List.take_of_length_le (by rw [List.length_drop, signs_len]; exact Nat.le_refl _)
    rw [e]
    exact .last
  | u :: P, s, t, hm, hl, nd => by
    obtain ⟨l, hl', hk⟩ := link_of (z := z) P t u (fun x m => hm x (List.mem_cons_of_mem _ m)) (by rw [← hl]; rfl) (List.nodup_cons.mp nd).2
    have hs := hm s (List.mem_cons_self ..)
    have ht := hm t (List.mem_cons_of_mem _ (List.mem_cons_self ..))
    have ne : s ≠ t := fun e => by rw [e] at nd; simp at nd
    refine ⟨l, ?_, ?_⟩
    · show (stepOf z s t :: stepsOf z (t :: u :: P))[(stepOf z s t :: stepsOf z (t :: u :: P)).length - 1]? = some l
      have p : 1 ≤ (stepsOf z (t :: u :: P)).length := by rw [stepsOf_len]; simp
      rw [List.length_cons, show (stepsOf z (t :: u :: P)).length + 1 - 1 = ((stepsOf z (t :: u :: P)).length - 1) + 1 by omega, List.getElem?_cons_succ]
      exact hl'
    · have e : rowsM ((stepsOf z (s :: t :: u :: P)).dropLast.map cwOf) = (decide ((cwOf (stepOf z s t)).1 = ("some" : Str)), Re.Signs (cwOf (stepOf z s t)).2) :: rowsM ((stepsOf z (t :: u :: P)).dropLast.map cwOf) := rfl
      rw [e]
      by_cases c : s < t
      · have e1 : (stepOf z s t) = (("on" : Str), cutS z (some (s : Int)) (some (t : Int))) := by unfold stepOf; rw [if_pos c]
        rw [e1, cw_on rfl]
        show Mi.Link _ _ ((true, Re.Signs (cutS z (some (s : Int)) (some (t : Int)))) :: _) _
        rw [signs_cut (by omega) ht]
        exact .on (by omega) hk
      · have e1 : (stepOf z s t) = (("back" : Str), cutS z (some (t : Int)) (some (s : Int))) := by unfold stepOf; rw [if_neg c]
        rw [e1, cw_back Rf.back_on]
        show Mi.Link _ _ ((false, Re.Signs (cutS z (some (t : Int)) (some (s : Int)))) :: _) _
        rw [signs_cut (by omega) hs]
        exact .back (by omega) hk
theorem sort_perm {cs ds : List (List Nat)} (p : cs.Perm ds) : cs.mergeSort (PySem.W.dataLe false tupD) = ds.mergeSort (PySem.W.dataLe false tupD) := by
  refine List.Perm.eq_of_pairwise (le := fun a b => PySem.W.dataLe false tupD a b = true) (fun a b _ _ h1 h2 => ?_) (PySem.W.sort_pairwise (PySem.W.sortLe_total _ _ _) cs) (PySem.W.sort_pairwise (PySem.W.sortLe_total _ _ _) ds) (((List.mergeSort_perm cs _).trans p).trans (List.mergeSort_perm ds _).symm)
  replace h1 : (!PySem.W.dataLt (tupD b) (tupD a)) = true := h1
  replace h2 : (!PySem.W.dataLt (tupD a) (tupD b)) = true := h2
  rw [Bool.not_eq_true'] at h1 h2
  exact tupD_inj (PyProof.Rows.lex_total _ _ h2 h1)
def RR (H : Hp) (q : Addr) (z : Str) : Prop := ∃ (ws : List Str) (P : List Nat), Watches ws ∧ Mp.ZigX (Mw.Adj ws z) z.length 0 P ∧ StepsAt H q (stepsOf z P)
theorem RR.keep {H H' : Hp} {q : Addr} {z : Str} (h : RR H q z) (s : ∀ b xs, H b = some (.tup xs) → H' b = some (.tup xs)) : RR H' q z := let ⟨ws, P, h1, h2, h3⟩ := h; ⟨ws, P, h1, h2, h3.keep s⟩
theorem RR.same {H H' : Hp} {q : Addr} {z : Str} (h : RR H q z) (s : Same H H') : RR H' q z := h.keep fun b xs => s b _
theorem RR.link {H : Hp} {q : Addr} {z : Str} (h : RR H q z) (hz : Lt.Wd 40 z) : ∃ ss l, StepsAt H q ss ∧ RuleOk ss ∧ ss[ss.length - 1]? = some l ∧ Mi.Link (Re.Signs z) 0 (rowsM (ss.dropLast.map cwOf)) (Re.Signs l.2) := by
  obtain ⟨ws, P, W, zx, hs⟩ := h
  have z0 := hz.l0
  have rk := rule_ok W hz zx
  have p2 := zx.len (by omega)
  have pm := zig_le zx
  match P, p2, zx, hs, rk, pm with
  | x :: t :: P, _, zx, hs, rk, pm =>
    have e : x = 0 := Option.some.inj zx.head
    subst e
    obtain ⟨l, h1, h2⟩ := link_of P 0 t pm zx.last zx.nd
    exact ⟨_, l, hs, rk, h1, h2⟩
def sp_law (K : PySem.W.Frag) : Sp := fun vs H Q _ => ∃ (a : Addr) (ns : List Int), vs = [.ref a] ∧ SqL K H a (ns.map V.int) ∧ ns.length ≤ 63 ∧ ∀ H', Q (.bl true) H'
theorem cut_all (z : Str) : cutS z (some ((0 : Nat) : Int)) (some (((0 : Nat) : Int) + (z.length : Int))) = z := by
  show (⟨((z.cps.toList.drop (HT.sIx z.length 0 (some ((0 : Nat) : Int)))).take (HT.sIx z.length z.length (some (((0 : Nat) : Int) + (z.length : Int))) - HT.sIx z.length 0 (some ((0 : Nat) : Int)))).toArray⟩ : Str) = z
  rw [show ((0 : Nat) : Int) + (z.length : Int) = ((z.length : Nat) : Int) by omega, HT.sIx_nat, HT.sIx_nat]
  have e : (z.cps.toList.drop (min 0 z.length)).take (min z.length z.length - min 0 z.length) = z.cps.toList := by
    rw [Nat.zero_min, Nat.min_self, List.drop_zero, Nat.sub_zero]
    exact List.take_of_length_le (by rw [Array.length_toList]; exact Nat.le_refl _)
  rw [e]
theorem told_self {us : List Str} {z : Str} (h : z ∈ us) : Mw.Told us z := .one ⟨z, h, .inl ⟨⟨by omega, cut_all z⟩, by omega⟩⟩
theorem cut_to4 (xs : List V) : cutV xs none (some 4) = xs.take 4 := by
  have e1 : HT.sIx xs.length xs.length (some 4) = min 4 xs.length := HT.sIx_nat _ _ 4
  have e2 : HT.sIx xs.length 0 none = 0 := rfl
  unfold cutV
  rw [e1, e2, List.drop_zero, Nat.sub_zero]
  by_cases h : 4 ≤ xs.length
  · rw [Nat.min_eq_left h]
  · rw [List.take_of_length_le (by omega), List.take_of_length_le (by omega)]
theorem ok_law (T : Txt w K mg) : FnOk P w K mg base CX0 7 T.f_law T.fd_law ["_law_script"] (sp_law K) := by
  refine T.F_law.ok sc_law (fun vs H Q E h => ?_) (fun cdv A outer s H vs Q E hr h => ?_)
  · obtain ⟨a, ns, rfl, _⟩ := h
    rfl
  · obtain ⟨a, ns, rfl, hS, hlen, k⟩ := h
    refine ⟨_, (pss_cons (ps_set (i := 1) sc_law.nd rfl (.inl rfl) (pe_call (ok_l_tape T) (hr.mono (by decide)) rfl T.g_l_tape T.F_l_tape.kp T.b_l_tape .nil pass0 (pa_cons (pv 0) pa_nil)))
  (pss_cons (ps_set (i := 2) sc_law.nd rfl (.inr rfl) (pe_call (ok_l_word T) (hr.mono (by decide)) rfl T.g_l_word T.F_l_word.kp T.b_l_word .nil pass0 (pa_cons (pv 1) (pa_cons pe_int pa_nil))))
  (pss_cons (ps_set (i := 3) sc_law.nd rfl (.inl rfl) (pe_call (ok_l_watches T) (hr.mono (by decide)) rfl T.g_l_watches T.F_l_watches.kp T.b_l_watches .nil pass0 (pa_cons (pv 1) (pa_cons (pv 2) (pa_cons (pe_op op_add pe_int (pe_call (ok_l_pick T) (hr.mono (by decide)) rfl T.g_l_pick T.F_l_pick.kp T.b_l_pick .nil pass0 (pa_cons (pv 1) (pa_cons pe_int pa_nil)))) (pa_cons pe_int pa_nil))))))
  (pss_cons (ps_set (i := 4) sc_law.nd rfl (.inl rfl) (pe_make T.M_Book (ok_Book_init T) (hr.mono (by decide)) rfl T.c_Book T.b_Book_init .nil pass0 (pa_cons (pv 3) pa_nil)))
  (pss_cons (ps_set (i := 5) sc_law.nd rfl (.inl rfl) (pe_call (ok_rule T) (hr.mono (by decide)) rfl T.g_rule T.F_rule.kp T.b_rule .nil pass0 (pa_cons (pv 4) (pa_cons (pv 2) pa_nil))))
  (pss_cons (ps_set (i := 6) sc_law.nd rfl (.inl rfl) (pe_call (ok_calm_rule T) (hr.mono (by decide)) rfl T.g_calm_rule T.F_calm_rule.kp T.b_calm_rule .nil pass0 (pa_cons (pv 4) (pa_cons (pv 2) pa_nil))))
  (C8.pss_cut (ps_if (PW.pt (pw_or (pt_cmpR op_isN (pv 5) pe_non (nomark _)) (pw_or1 (pt_cmpR op_isN (pv 6) pe_non (nomark _)))))
  (pss_cons (ps_set (i := 2) sc_law.nd rfl (.inr rfl) (pe_slice sl_str (pv 2) po_none (po_some pe_int)))
  (pss_cons (ps_set (i := 4) sc_law.nd rfl (.inl rfl) (pe_make T.M_Book (ok_Book_init T) (hr.mono (by decide)) rfl T.c_Book T.b_Book_init .nil pass0 (pa_cons (pe_op op_cat (pe_slice (r := rSlL K) sl_list (pe_lc (own := [("_law_watch_here", 13)]) (g := gName 13)  rfl sc_law.nd (pi_list (pv 3)) (blkOk_by (own := [("_law_watch_here", 13)]) (N := ["_law_script", "_law_tape_here", "_law_word_here", "_law_watches_here", "_law_book", "_law_steps", "_law_calm", "_law_turn", "_law_many", "_law_roads_here", "_law_due", "_law_told", "_law_clauses_here", "_law_watch_here"]) (sc := defScope s_law) (by decide +kernel)) (fun _ _ _ _ _ => (pg_name (i := 13) sc_law.nd rfl (.inl rfl))) (fun _ _ _ _ _ => pts_one (pt_cmpR op_ne (pv 13) (pv 2) (nomark _))) (fun _ _ _ _ _ => (pv 13))) po_none (po_some pe_int)) (pe_lst (pa_cons (pv 2) pa_nil))) pa_nil)))
  (pss_cons (ps_set (i := 5) sc_law.nd rfl (.inl rfl) (pe_call (ok_rule T) (hr.mono (by decide)) rfl T.g_rule T.F_rule.kp T.b_rule .nil pass0 (pa_cons (pv 4) (pa_cons (pv 2) pa_nil))))
  (pss_one (ps_set (i := 6) sc_law.nd rfl (.inl rfl) (pe_call (ok_calm_rule T) (hr.mono (by decide)) rfl T.g_calm_rule T.F_calm_rule.kp T.b_calm_rule .nil pass0 (pa_cons (pv 4) (pa_cons (pv 2) pa_nil))))))))
  pss_nil)
  (C8.pss_cut (ps_if (PW.pt (pw_or (pt_cmpR op_isN (pv 5) pe_non (nomark _)) (pw_or1 (pt_cmpR op_isN (pv 6) pe_non (nomark _)))))
  (pss_one (ps_ret pe_bl))
  pss_nil)
  (pss_cons (ps_for PassesOwn.never rfl (pi_range1 rfl T.n_range (pa_cons pe_int pa_nil)) (pg_name (i := 7) sc_law.nd rfl (.inl rfl))
  (pss_cons (ps_asg (pe_call (ok_l_roads T) (hr.mono (by decide)) rfl T.g_l_roads T.F_l_roads.kp T.b_l_roads .nil pass0 (pa_cons (pv 1) (pa_cons (pv 2) pa_nil))) (pg_tup rfl (pgs_cons (pg_name (i := 8) sc_law.nd rfl (.inl rfl)) (pgs_cons (pg_name (i := 9) sc_law.nd rfl (.inl rfl)) pgs_nil))))
  (pss_cons (ps_set (i := 10) sc_law.nd rfl (.inl rfl) (pe_callB (id := "sorted") (r := Rs.rSortD K) (Rs.cr_sortD hr.units) (by rfl) T.n_sorted (by decide +kernel) (pa_cons (pe_call (ok_l_pairs T) (hr.mono (by decide)) rfl T.g_l_pairs T.F_l_pairs.kp T.b_l_pairs .nil pass0 (pa_cons (pv 8) (pa_cons (pv 9) (pa_cons (pv 2) pa_nil)))) pa_nil)))
  (pss_one (ps_for PassesOwn.never rfl (pi_list (pe_lst (pa_cons (pv 5) (pa_cons (pv 6) pa_nil)))) (pg_name (i := 11) sc_law.nd rfl (.inl rfl))
  (pss_cons (ps_set (i := 12) sc_law.nd rfl (.inl rfl) (pe_call (ok_l_clauses T) (hr.mono (by decide)) rfl T.g_l_clauses T.F_l_clauses.kp T.b_l_clauses .nil pass0 (pa_cons (pe_call (ok_saying T) (hr.mono (by decide)) rfl T.g_saying T.F_saying.kp T.b_saying .nil pass0 (pa_cons (pv 11) pa_nil)) pa_nil)))
  (pss_one (ps_if (PW.pt (pw_or (pt_cmpR op_isN (pv 12) pe_non (nomark _)) (pw_or1 (pt_cmpR (r := rNeD K) (op_neD hr.units) (pe_call (ok_l_holds T) (hr.mono (by decide)) rfl T.g_l_holds T.F_l_holds.kp T.b_l_holds .nil pass0 (pa_cons (pv 8) (pa_cons (pv 9) (pa_cons (pv 12) pa_nil)))) (pv 10) (nomark _)))))
  (pss_one (ps_ret pe_bl))
  pss_nil))))))))
  (pss_one (ps_ret pe_bl))))))))))), ?_⟩
    walk_at "rd"
    refine ⟨a, ns, rfl, hS, fun t c H1 tp1 s1 _ _ => ?_⟩
    walk_at "rd"
    refine ⟨t, c, 14, rfl, tp1, by decide, by decide, fun z H2 hz tp2 b2 => ?_⟩
    have z0 := hz.l0
    have z1 := hz.l1
    have hz40 : Lt.Wd 40 z := hz.mono (by decide)
    walk_at "rd"
    refine pickR tp2 (by decide) (by decide) fun many H3 m0 m1 tp3 b3 => ?_
    walk_at "rd"
    refine ⟨t, c, z, _, 12, rfl, tp3, hz.mono (by decide), by omega, by omega, by decide, by decide, fun l ws H4 tp4 b4 nl gl nd wl hw wne => ?_⟩
    have Wt : Watches ws := ⟨nd, by omega, hw⟩
    walk_at "rd"
    refine Rd.mk fun x dx G2 nx ndx ne gx s2 off2 => ?_
    refine ⟨x, l, ws, rfl, ⟨dx, gx⟩, .inl (.of (s2 _ _ gl)), Wt, fun G3 hB b3 => ⟨rfl, ?_⟩⟩
    have s43 : Same H4 G3 := fun c o e => b3 c o (ne_of_none e nx) (s2 _ _ e)
    have tp5 := tp4.same s43
    have gl5 := s43 _ _ gl
    clear s43 b3 off2 s2 gx ne ndx nx tp4 gl
    walk_at "rd"
    refine ⟨x, ws, z, rfl, hB, Wt, hz40, fun r1 H5 s5 ru => ?_⟩
    walk_at "rd"
    refine ⟨x, ws, z, rfl, hB.same s5, Wt, hz40, fun r2 H6 s6 cr => ?_⟩
    have tp6 := (tp5.same s5).same s6
    have gl6 := s6 _ _ (s5 _ _ gl5)
    walk_at "rd"
    refine Rd.cut (fun σ H' => ∃ (z : Str) (x q1 q2 : Addr) (o13 : Option V), σ = [some (.ref a), some (.ref t), some (.str z), some (.ref l), some (.ref x), some (.ref q1), some (.ref q2), none, none, none, none, none, none, o13] ∧ Lt.Wd 40 z ∧ RR H' q1 z ∧ RR H' q2 z ∧ Tape H' t c) ?_ ?_
    · rcases ru with ⟨rfl, nt⟩ | ⟨q1, P1, rfl, hq1, _, g1⟩
      · walk_at "rd"
        refine ⟨rfl, ?_⟩
        dsimp only
        refine ⟨_, rfl, ?_⟩
        refine Rd.yes (decide_eq_true rfl) ?_
        refine Rd.yes rfl ?_
        walk_at "rd"
        refine Rd.slS (by rw [sizeLine_eq]; omega) ?_
        have yl := Lt.cut_to (z := z) (b := 12) (by decide)
        have hy : Lt.Wd 12 (cutS z none (some 12)) := ⟨hz.ok.cut _ _, by omega, by omega⟩
        generalize cutS z none (some 12) = y at hy yl
        walk_at "rd"
        refine ⟨⟨_, .of gl6⟩, ?_⟩
        refine Rd.lcS walk_list (fun _ s => .of (s _ _ gl6)) (fun D i acc _ => acc = ((ws.take i).filter fun w => !decide (w = y)).map V.str) (fun _ _ _ _ _ => rfl) ?_ ?_
        · rintro D i x G _ acc nD hi hD sm rfl ⟨rfl, hx⟩
          obtain ⟨v, hv, rfl⟩ := Rd.map_strG hx
          walk_at "rd"
          refine ⟨rfl, ?_⟩
          walk_at "rd"
          have al : ((ws.take i).filter fun w => !decide (w = y)).length ≤ 12 := by
            refine Nat.le_trans (List.length_filter_le _ _) ?_
            have := Wt.l1
            rw [List.length_take]
            omega
          by_cases e : v = y
          · refine Rd.yes e ?_
            refine ⟨_, hD, sm, ?_⟩
            dsimp only
            rw [Rd.take_snoc hv, filt_snoc, if_neg (by rw [decide_eq_true e]; exact Bool.false_ne_true), List.append_nil]
          · refine Rd.no e ?_
            walk_at "rd"
            refine Rd.lcPush hD nD sm (by rw [List.length_map, sizeLine_eq]; omega) fun G5 _ _ => ?_
            rw [Rd.take_snoc hv, filt_snoc, if_pos (by rw [decide_eq_false e]; rfl), List.map_append]
            rfl
        rintro D acc H7 nD hD s7 rfl
        rw [List.length_map, List.take_length] at hD
        walk_at "rd"
        refine Rd.slL (.of hD) (Rd.new fun d1 H8 n8 g8 s8 => ?_)
        rw [cut_to4, ← List.map_take] at g8
        walk_at "rd"
        refine ⟨Nat.le_of_ble_eq_true rfl, Rd.new fun d2 H9 n9 g9 s9 => ?_⟩
        have fl : (ws.filter fun w => !decide (w = y)).length ≤ 12 := Nat.le_trans (List.length_filter_le _ _) Wt.l1
        refine Rd.cat (s9 _ _ g8) g9 (by rw [List.length_map, List.length_take, sizeLine_eq]; simp; omega) (Rd.new fun d3 H10 n10 g10 s10 => ?_)
        have W2 : Watches ((ws.filter fun w => !decide (w = y)).take 4 ++ [y]) := by
          refine ⟨?_, ?_, fun v m => ?_⟩
          · rw [List.nodup_append]
            refine ⟨(Wt.nd.filter _).sublist (List.take_sublist _ _), List.nodup_cons.mpr ⟨List.not_mem_nil, List.nodup_nil⟩, fun v m u m2 e => ?_⟩
            have := (List.mem_filter.mp (List.mem_of_mem_take m)).2
            rw [e, List.mem_singleton.mp m2] at this
            simp at this
          · rw [List.length_append, List.length_take]
            simp
            omega
          · rcases List.mem_append.mp m with m | m
            · exact Wt.ok v (List.mem_filter.mp (List.mem_of_mem_take m)).1
            · rw [List.mem_singleton.mp m]
              exact hy
        have g10 : H10 d3 = some (.lst (((ws.filter fun w => !decide (w = y)).take 4 ++ [y]).map V.str)) := by rw [g10, List.map_append]; rfl
        have told : Mw.Told ((ws.filter fun w => !decide (w = y)).take 4 ++ [y]) y := told_self (List.mem_append.mpr (.inr (List.mem_singleton.mpr rfl)))
        generalize (ws.filter fun w => !decide (w = y)).take 4 ++ [y] = us at W2 g10 told
        have tp10 := ((tp6.same s7).same s8).same (s9.trans s10)
        walk_at "rd"
        refine Rd.mk fun x2 dx G2 nx ndx ne gx s2 off2 => ?_
        refine ⟨x2, d3, us, rfl, ⟨dx, gx⟩, .inl (.of (s2 _ _ g10)), W2, fun G3 hB2 b3 => ⟨rfl, ?_⟩⟩
        have s43 : Same H10 G3 := fun c o e => b3 c o (ne_of_none e nx) (s2 _ _ e)
        have hy40 : Lt.Wd 40 y := hy.mono (by decide)
        walk_at "rd"
        refine ⟨x2, us, y, rfl, hB2, W2, hy40, fun r3 H11 s11 ru2 => ?_⟩
        walk_at "rd"
        refine ⟨x2, us, y, rfl, hB2.same s11, W2, hy40, fun r4 H12 s12 cr2 => ?_⟩
        rcases ru2 with ⟨_, n⟩ | ⟨q3, P3, rfl, hq3, _, g3⟩
        · exact absurd told n
        rcases cr2 with ⟨_, n⟩ | ⟨q4, P4, rfl, hq4, _, g4⟩
        · exact absurd told n
        walk_at "rd"
        exact ⟨y, x2, q3, q4, _, rfl, hy40, ⟨us, P3, W2, Mp.gr_zig g3, hq3.same s12⟩, ⟨us, P4, W2, Mp.gc_zig (adj_irr W2) g4, hq4⟩, ((tp10.same s43).same s11).same s12⟩
      · rcases cr with ⟨rfl, nt⟩ | ⟨q2, P2, rfl, hq2, _, g2⟩
        · exact absurd (gr_told g1) nt
        · walk_at "rd"
          refine ⟨rfl, ?_⟩
          dsimp only
          refine ⟨_, rfl, ?_⟩
          refine Rd.no (fun e => V.noConfusion (of_decide_eq_true e)) ?_
          walk_at "rd"
          refine ⟨rfl, ?_⟩
          dsimp only
          refine ⟨_, rfl, ?_⟩
          refine Rd.no (fun e => V.noConfusion (of_decide_eq_true e)) ?_
          walk_at "rd"
          exact ⟨z, x, q1, q2, none, rfl, hz40, ⟨ws, P1, Wt, Mp.gr_zig g1, hq1.same s6⟩, ⟨ws, P2, Wt, Mp.gc_zig (adj_irr Wt) g2, hq2⟩, tp6⟩
    · rintro _ H7 ⟨z, x, q1, q2, o13, rfl, hz, h1, h2, tp⟩
      walk_at "rd"
      refine Rd.cut (fun σ H' => σ = [some (.ref a), some (.ref t), some (.str z), some (.ref l), some (.ref x), some (.ref q1), some (.ref q2), none, none, none, none, none, none, o13] ∧ H' = H7) ?_ ?_
      · walk_at "rd"
        refine ⟨rfl, ?_⟩
        dsimp only
        refine ⟨_, rfl, ?_⟩
        refine Rd.no (fun e => V.noConfusion (of_decide_eq_true e)) ?_
        walk_at "rd"
        refine ⟨rfl, ?_⟩
        dsimp only
        refine ⟨_, rfl, ?_⟩
        refine Rd.no (fun e => V.noConfusion (of_decide_eq_true e)) ?_
        walk_at "rd"
        exact ⟨rfl, rfl⟩
      rintro _ _ ⟨rfl, rfl⟩
      have zl := hz.l1
      walk_at "rd"
      refine Rd.forS ?_
      walk_at "rd"
      refine ⟨by decide, by decide, ?_⟩
      refine for_range (lo := 0) (n := 2) (fun i σ H' => ∃ (o7 o8 o9 o10 o11 o12 : Option V), σ = [some (.ref a), some (.ref t), some (.str z), some (.ref l), some (.ref x), some (.ref q1), some (.ref q2), o7, o8, o9, o10, o11, o12, o13] ∧ RR H' q1 z ∧ RR H' q2 z ∧ Tape H' t c)
        ⟨_, _, _, _, _, _, rfl, h1, h2, tp⟩ ?_ ?_
      · clear h1 h2 tp
        rintro i _ H8 hi ⟨o7, o8, o9, o10, o11, o12, rfl, h1, h2, tp⟩
        walk_at "rd"
        refine ⟨t, c, z, rfl, tp, by omega, fun p d n R H9 n2 n4 gp hR tp9 b9 => ?_⟩
        have h1' := h1.keep (tup_t tp b9)
        have h2' := h2.keep (tup_t tp b9)
        walk_at "rd"
        refine Rd.tupT (.of gp) rfl ?_
        walk_at "rd"
        refine ⟨d, n, R, z, rfl, by omega, n4, hR, by omega, fun m H10 s10 nm hm => ?_⟩
        walk_at "rd"
        obtain ⟨xs, gm, qs, rfl, pm⟩ := hm.pr
        have ne : ∀ c ∈ Mi.pairsOf n R (Re.Signs z), c ≠ [] := fun c m e => by
          obtain ⟨p, q, e2, _⟩ := Mi.mem_pairs'.mp m
          rw [e2] at e
          cases e
        refine Rw.sortD tupD (fun x c => TupAt H10 x c) (.of gm) (tups_each pm) (keys_cls ne) fun out m2 G ho nm2 gm2 sG => ?_
        obtain ⟨ps, rfl, pp⟩ := each_tups sG ho
        have hD : ClsAt G m2 _ := ⟨ps, gm2, pp⟩
        have s9G := s10.trans sG
        have h1 := h1'.same s9G
        have h2 := h2'.same s9G
        have hR := hR.same s9G
        have tp := tp9.same s9G
        walk_at "rd"
        refine Rd.forS ?_
        walk_at "rd"
        refine ⟨Nat.le_of_ble_eq_true rfl, Rd.new fun u G1 nu gu su => ?_⟩
        refine ⟨u, rfl, ⟨_, .of gu⟩, ?_⟩
        refine for_list (K := K) (a := u) (xs := [.ref q1, .ref q2]) (fun _ σ H' => ∃ (o11 o12 : Option V), σ = [some (.ref a), some (.ref t), some (.str z), some (.ref l), some (.ref x), some (.ref q1), some (.ref q2), some (.int (0 + (i : Int))), some (.int (n : Nat)), some (.ref d), some (.ref m2), o11, o12, o13] ∧ Same G1 H')
          ⟨_, _, rfl, Same.refl _⟩ (fun i σ H' _ ⟨_, _, _, s⟩ => .of (s _ _ gu)) ?_ ?_
        · rintro j v _ H11 hv ⟨o11, o12, rfl, s11⟩
          have sG := su.trans s11
          have hq : ∃ q, v = .ref q ∧ RR H11 q z := by
            have := List.mem_of_getElem? hv
            simp only [List.mem_cons, List.not_mem_nil, or_false] at this
            rcases this with rfl | rfl
            · exact ⟨q1, rfl, h1.same sG⟩
            · exact ⟨q2, rfl, h2.same sG⟩
          obtain ⟨q, rfl, hq⟩ := hq
          obtain ⟨ss, lst, hS, hK, hl, lk⟩ := hq.link hz
          walk_at "rd"
          refine ⟨q, ss, rfl, hS, hK, fun y H12 ey s12 => ?_⟩
          walk_at "rd"
          refine ⟨y, ss, lst, rfl, ey, hK, hl, fun p L H13 gp hC s13 => ?_⟩
          have s113 := s12.trans s13
          walk_at "rd"
          refine ⟨rfl, ?_⟩
          dsimp only
          refine ⟨_, rfl, ?_⟩
          refine Rd.no (fun e => V.noConfusion (of_decide_eq_true e)) ?_
          walk_at "rd"
          have s1 := sG.trans s113
          refine ⟨d, p, L, n, R, _, _, rfl, by omega, n4, hR.same s1, gp, hC, by have := hK.l80; rw [List.length_map, List.length_dropLast]; omega, by have := (hK.ok _ (List.mem_of_getElem? hl)).wd.l1; omega, fun c m => ?_, fun h H14 s14 nh hh => ?_⟩
          · obtain ⟨e, me, rfl⟩ := List.mem_map.mp m
            have := (hK.ok e (List.dropLast_subset _ me)).wd.l1
            refine ⟨by show e.2.length ≤ 100; omega, ?_⟩
            unfold cwOf
            by_cases q : e.1 = ("on" : Str)
            · rw [if_pos q]
              exact .inl rfl
            · rw [if_neg q]
              exact .inr rfl
          walk_at "rd"
          rw [sort_perm (Mi.holds_perm lk)] at hh
          refine neCls hh (hD.same (s1.trans s14)) ?_
          walk_at "rd"
          exact ⟨_, _, rfl, s11.trans (s113.trans s14)⟩
        · rintro _ H11 ⟨o11, o12, rfl, s11⟩
          have sG := su.trans s11
          walk_at "rd"
          exact ⟨_, _, _, _, _, _, rfl, h1.same sG, h2.same sG, tp.same sG⟩
      · rintro _ H8 ⟨o7, o8, o9, o10, o11, o12, rfl, h1, h2, tp⟩
        walk_at "rd"
        exact k _

end
end W

namespace W
open PySem PySem.Spec PyProof.Rows L2
theorem all_mk {l : PySem.W.OpenLaw} {w : World} {K : PySem.W.Frag} {h : Heap} {mg : Str → Option Value} {fa : Addr} (X : K.In h) (G : h.Ns mainGlobals mg) (hfa : mg "law" = some (.ref fa))
    {f1 f2 f3 f4 f5 f6 f7 f8 f9 f10 f11 f12 f13 f14 f15 f16 f17 f18 f19 f20 f21 f22 f23 f24 f25 f26 f27 f28 f29 f30 f31 f32 f33 C0 : Addr} {od1 an1 od2 an2 od3 an3 od4 an4 od5 an5 od6 an6 od7 an7 od8 an8 od9 an9 od10 an10 od11 an11 od12 an12 od13 an13 od14 an14 od15 an15 od16 an16 od17 an17 od18 an18 od19 an19 od20 an20 od21 an21 od22 an22 od23 an23 od24 an24 od25 an25 od26 an26 od27 an27 od28 an28 od29 an29 od30 an30 od31 an31 od32 an32 od33 an33 : Option Addr} {sl1 sl2 sl3 sl4 sl5 sl6 sl7 sl8 sl9 sl10 sl11 sl12 sl13 sl14 sl15 sl16 sl17 sl18 sl19 sl20 sl21 sl22 sl23 sl24 sl25 sl26 sl27 sl28 sl29 sl30 sl31 sl32 sl33 : Array (Option Value)} {oc1 kV1 dc1 pm1 cd1 ct1 oc2 kV2 dc2 pm2 cd2 ct2 oc3 kV3 dc3 pm3 cd3 ct3 oc4 kV4 dc4 pm4 cd4 ct4 oc5 kV5 dc5 pm5 cd5 ct5 oc6 kV6 dc6 pm6 cd6 ct6 oc7 kV7 dc7 pm7 cd7 ct7 oc8 kV8 dc8 pm8 cd8 ct8 oc9 kV9 dc9 pm9 cd9 ct9 oc10 kV10 dc10 pm10 cd10 ct10 oc11 kV11 dc11 pm11 cd11 ct11 oc12 kV12 dc12 pm12 cd12 ct12 oc13 kV13 dc13 pm13 cd13 ct13 oc14 kV14 dc14 pm14 cd14 ct14 oc15 kV15 dc15 pm15 cd15 ct15 oc16 kV16 dc16 pm16 cd16 ct16 oc17 kV17 dc17 pm17 cd17 ct17 oc18 kV18 dc18 pm18 cd18 ct18 oc19 kV19 dc19 pm19 cd19 ct19 oc20 kV20 dc20 pm20 cd20 ct20 oc21 kV21 dc21 pm21 cd21 ct21 oc22 kV22 dc22 pm22 cd22 ct22 oc23 kV23 dc23 pm23 cd23 ct23 oc24 kV24 dc24 pm24 cd24 ct24 oc25 kV25 dc25 pm25 cd25 ct25 oc26 kV26 dc26 pm26 cd26 ct26 oc27 kV27 dc27 pm27 cd27 ct27 oc28 kV28 dc28 pm28 cd28 ct28 oc29 kV29 dc29 pm29 cd29 ct29 oc30 kV30 dc30 pm30 cd30 ct30 oc31 kV31 dc31 pm31 cd31 ct31 oc32 kV32 dc32 pm32 cd32 ct32 oc33 kV33 dc33 pm33 cd33 ct33 : Value}
    (u0 : PySem.W.nsIn K mainGlobals "Book" = some (some (.ref C0)))
    (pg0 : PySem.W.plainGet K C0 Str.empty = true) (hd0 : PySem.W.hasDictIn K C0 = true) (po0 : PySem.W.plainOver K C0 = true) (sa0 : PySem.W.findIn K (.ref C0) "__setattr__" = some (some (.builtin "object.__setattr__")))
    (wc0 : PySem.W.findIn K (.ref C0) "__class__" = some (some (.builtin "object.__class__"))) (wm0 : PySem.W.mroIn K C0 (.type "object") = some true)
    (wn0 : PySem.W.specialIn K (.builtin "object.__class__") "__get__" = some (some (.builtin "getset_descriptor.__get__"))) (wt0 : PySem.W.takesIn K (.builtin "object.__class__") = some true)
    (na0_0 : PySem.W.findIn K (.ref C0) "watches" = some none)
    {kqOTHER : Addr} {keOTHER : Array DictEntry} {knOTHER : Nat} (kuOTHER : PySem.W.nsIn K mainGlobals "OTHER" = some (some (.ref kqOTHER)))
    (klOTHER : K.lookup kqOTHER = some ⟨.type "dict", none, .dict keOTHER knOTHER, #[]⟩) (kkOTHER : PySem.W.KeysLit w.params keOTHER.toList) (kwOTHER : (kqOTHER == sysModules) = false)
    {ktOTHER_0 : Tok} (kvOTHER_0 : PySem.W.nsIn K kqOTHER "on" = some (some (.str "back" ktOTHER_0)))
    {ktOTHER_1 : Tok} (kvOTHER_1 : PySem.W.nsIn K kqOTHER "back" = some (some (.str "on" ktOTHER_1)))
    (a1 : PySem.W.nsIn K mainGlobals "is_letters" = some (some (.ref f1)))
    (l1 : K.lookup f1 = some ⟨oc1, od1, .func (PySem.W.fnOf "is_letters" "is_letters" (defArgs s_is_letters) (defBody s_is_letters) (defScope s_is_letters) .none kV1 dc1 pm1 an1 cd1 ct1), sl1⟩) (c1 : PySem.W.codeIn K cd1 "is_letters" = true) (k1 : PySem.W.keepIn K (.ref f1) = true)
    (a2 : PySem.W.nsIn K mainGlobals "is_word" = some (some (.ref f2)))
    (l2 : K.lookup f2 = some ⟨oc2, od2, .func (PySem.W.fnOf "is_word" "is_word" (defArgs s_is_word) (defBody s_is_word) (defScope s_is_word) .none kV2 dc2 pm2 an2 cd2 ct2), sl2⟩) (c2 : PySem.W.codeIn K cd2 "is_word" = true) (k2 : PySem.W.keepIn K (.ref f2) = true)
    (a3 : PySem.W.nsIn K mainGlobals "is_watch" = some (some (.ref f3)))
    (l3 : K.lookup f3 = some ⟨oc3, od3, .func (PySem.W.fnOf "is_watch" "is_watch" (defArgs s_is_watch) (defBody s_is_watch) (defScope s_is_watch) .none kV3 dc3 pm3 an3 cd3 ct3), sl3⟩) (c3 : PySem.W.codeIn K cd3 "is_watch" = true) (k3 : PySem.W.keepIn K (.ref f3) = true)
    (a4 : PySem.W.nsIn K mainGlobals "check_word" = some (some (.ref f4)))
    (l4 : K.lookup f4 = some ⟨oc4, od4, .func (PySem.W.fnOf "check_word" "check_word" (defArgs s_check_word) (defBody s_check_word) (defScope s_check_word) .none kV4 dc4 pm4 an4 cd4 ct4), sl4⟩) (c4 : PySem.W.codeIn K cd4 "check_word" = true) (k4 : PySem.W.keepIn K (.ref f4) = true)
    (a5 : PySem.W.findIn K (.ref C0) "__init__" = some (some (.ref f5))) (i5 : PySem.W.isFn K (.ref f5) = true)
    (mk0 : PySem.W.makesIn K C0 = true) (kc0 : PySem.W.keepIn K (.ref C0) = true)
    (l5 : K.lookup f5 = some ⟨oc5, od5, .func (PySem.W.fnOf "__init__" "Book.__init__" (defArgs s_Book_init) (defBody s_Book_init) (defScope s_Book_init) .none kV5 dc5 pm5 an5 cd5 ct5), sl5⟩) (c5 : PySem.W.codeIn K cd5 "Book.__init__" = true) (k5 : PySem.W.keepIn K (.ref f5) = true)
    (a6 : PySem.W.nsIn K mainGlobals "check_book" = some (some (.ref f6)))
    (l6 : K.lookup f6 = some ⟨oc6, od6, .func (PySem.W.fnOf "check_book" "check_book" (defArgs s_check_book) (defBody s_check_book) (defScope s_check_book) .none kV6 dc6 pm6 an6 cd6 ct6), sl6⟩) (c6 : PySem.W.codeIn K cd6 "check_book" = true) (k6 : PySem.W.keepIn K (.ref f6) = true)
    (a7 : PySem.W.nsIn K mainGlobals "links_of" = some (some (.ref f7)))
    (l7 : K.lookup f7 = some ⟨oc7, od7, .func (PySem.W.fnOf "links_of" "links_of" (defArgs s_links_of) (defBody s_links_of) (defScope s_links_of) .none kV7 dc7 pm7 an7 cd7 ct7), sl7⟩) (c7 : PySem.W.codeIn K cd7 "links_of" = true) (k7 : PySem.W.keepIn K (.ref f7) = true)
    (a8 : PySem.W.nsIn K mainGlobals "distances" = some (some (.ref f8)))
    (l8 : K.lookup f8 = some ⟨oc8, od8, .func (PySem.W.fnOf "distances" "distances" (defArgs s_distances) (defBody s_distances) (defScope s_distances) .none kV8 dc8 pm8 an8 cd8 ct8), sl8⟩) (c8 : PySem.W.codeIn K cd8 "distances" = true) (k8 : PySem.W.keepIn K (.ref f8) = true)
    (a9 : PySem.W.nsIn K mainGlobals "shortest" = some (some (.ref f9)))
    (l9 : K.lookup f9 = some ⟨oc9, od9, .func (PySem.W.fnOf "shortest" "shortest" (defArgs s_shortest) (defBody s_shortest) (defScope s_shortest) .none kV9 dc9 pm9 an9 cd9 ct9), sl9⟩) (c9 : PySem.W.codeIn K cd9 "shortest" = true) (k9 : PySem.W.keepIn K (.ref f9) = true)
    (a10 : PySem.W.nsIn K mainGlobals "step_cost" = some (some (.ref f10)))
    (l10 : K.lookup f10 = some ⟨oc10, od10, .func (PySem.W.fnOf "step_cost" "step_cost" (defArgs s_step_cost) (defBody s_step_cost) (defScope s_step_cost) .none kV10 dc10 pm10 an10 cd10 ct10), sl10⟩) (c10 : PySem.W.codeIn K cd10 "step_cost" = true) (k10 : PySem.W.keepIn K (.ref f10) = true)
    (a11 : PySem.W.nsIn K mainGlobals "calm_costs" = some (some (.ref f11)))
    (l11 : K.lookup f11 = some ⟨oc11, od11, .func (PySem.W.fnOf "calm_costs" "calm_costs" (defArgs s_calm_costs) (defBody s_calm_costs) (defScope s_calm_costs) .none kV11 dc11 pm11 an11 cd11 ct11), sl11⟩) (c11 : PySem.W.codeIn K cd11 "calm_costs" = true) (k11 : PySem.W.keepIn K (.ref f11) = true)
    (a12 : PySem.W.nsIn K mainGlobals "calmest" = some (some (.ref f12)))
    (l12 : K.lookup f12 = some ⟨oc12, od12, .func (PySem.W.fnOf "calmest" "calmest" (defArgs s_calmest) (defBody s_calmest) (defScope s_calmest) .none kV12 dc12 pm12 an12 cd12 ct12), sl12⟩) (c12 : PySem.W.codeIn K cd12 "calmest" = true) (k12 : PySem.W.keepIn K (.ref f12) = true)
    (a13 : PySem.W.nsIn K mainGlobals "steps_between" = some (some (.ref f13)))
    (l13 : K.lookup f13 = some ⟨oc13, od13, .func (PySem.W.fnOf "steps_between" "steps_between" (defArgs s_steps_between) (defBody s_steps_between) (defScope s_steps_between) .none kV13 dc13 pm13 an13 cd13 ct13), sl13⟩) (c13 : PySem.W.codeIn K cd13 "steps_between" = true) (k13 : PySem.W.keepIn K (.ref f13) = true)
    (a14 : PySem.W.nsIn K mainGlobals "rule_by" = some (some (.ref f14)))
    (l14 : K.lookup f14 = some ⟨oc14, od14, .func (PySem.W.fnOf "rule_by" "rule_by" (defArgs s_rule_by) (defBody s_rule_by) (defScope s_rule_by) .none kV14 dc14 pm14 an14 cd14 ct14), sl14⟩) (c14 : PySem.W.codeIn K cd14 "rule_by" = true) (k14 : PySem.W.keepIn K (.ref f14) = true)
    (a15 : PySem.W.nsIn K mainGlobals "rule" = some (some (.ref f15)))
    (l15 : K.lookup f15 = some ⟨oc15, od15, .func (PySem.W.fnOf "rule" "rule" (defArgs s_rule) (defBody s_rule) (defScope s_rule) .none kV15 dc15 pm15 an15 cd15 ct15), sl15⟩) (c15 : PySem.W.codeIn K cd15 "rule" = true) (k15 : PySem.W.keepIn K (.ref f15) = true)
    (a16 : PySem.W.nsIn K mainGlobals "is_step" = some (some (.ref f16)))
    (l16 : K.lookup f16 = some ⟨oc16, od16, .func (PySem.W.fnOf "is_step" "is_step" (defArgs s_is_step) (defBody s_is_step) (defScope s_is_step) .none kV16 dc16 pm16 an16 cd16 ct16), sl16⟩) (c16 : PySem.W.codeIn K cd16 "is_step" = true) (k16 : PySem.W.keepIn K (.ref f16) = true)
    (a17 : PySem.W.nsIn K mainGlobals "are_steps" = some (some (.ref f17)))
    (l17 : K.lookup f17 = some ⟨oc17, od17, .func (PySem.W.fnOf "are_steps" "are_steps" (defArgs s_are_steps) (defBody s_are_steps) (defScope s_are_steps) .none kV17 dc17 pm17 an17 cd17 ct17), sl17⟩) (c17 : PySem.W.codeIn K cd17 "are_steps" = true) (k17 : PySem.W.keepIn K (.ref f17) = true)
    (a18 : PySem.W.nsIn K mainGlobals "check_steps" = some (some (.ref f18)))
    (l18 : K.lookup f18 = some ⟨oc18, od18, .func (PySem.W.fnOf "check_steps" "check_steps" (defArgs s_check_steps) (defBody s_check_steps) (defScope s_check_steps) .none kV18 dc18 pm18 an18 cd18 ct18), sl18⟩) (c18 : PySem.W.codeIn K cd18 "check_steps" = true) (k18 : PySem.W.keepIn K (.ref f18) = true)
    (a19 : PySem.W.nsIn K mainGlobals "calm_rule" = some (some (.ref f19)))
    (l19 : K.lookup f19 = some ⟨oc19, od19, .func (PySem.W.fnOf "calm_rule" "calm_rule" (defArgs s_calm_rule) (defBody s_calm_rule) (defScope s_calm_rule) .none kV19 dc19 pm19 an19 cd19 ct19), sl19⟩) (c19 : PySem.W.codeIn K cd19 "calm_rule" = true) (k19 : PySem.W.keepIn K (.ref f19) = true)
    (a20 : PySem.W.nsIn K mainGlobals "clause" = some (some (.ref f20)))
    (l20 : K.lookup f20 = some ⟨oc20, od20, .func (PySem.W.fnOf "clause" "clause" (defArgs s_clause) (defBody s_clause) (defScope s_clause) .none kV20 dc20 pm20 an20 cd20 ct20), sl20⟩) (c20 : PySem.W.codeIn K cd20 "clause" = true) (k20 : PySem.W.keepIn K (.ref f20) = true)
    (a21 : PySem.W.nsIn K mainGlobals "saying_of" = some (some (.ref f21)))
    (l21 : K.lookup f21 = some ⟨oc21, od21, .func (PySem.W.fnOf "saying_of" "saying_of" (defArgs s_saying_of) (defBody s_saying_of) (defScope s_saying_of) .none kV21 dc21 pm21 an21 cd21 ct21), sl21⟩) (c21 : PySem.W.codeIn K cd21 "saying_of" = true) (k21 : PySem.W.keepIn K (.ref f21) = true)
    (a22 : PySem.W.nsIn K mainGlobals "saying" = some (some (.ref f22)))
    (l22 : K.lookup f22 = some ⟨oc22, od22, .func (PySem.W.fnOf "saying" "saying" (defArgs s_saying) (defBody s_saying) (defScope s_saying) .none kV22 dc22 pm22 an22 cd22 ct22), sl22⟩) (c22 : PySem.W.codeIn K cd22 "saying" = true) (k22 : PySem.W.keepIn K (.ref f22) = true)
    (a23 : PySem.W.nsIn K mainGlobals "_law_tape" = some (some (.ref f23)))
    (l23 : K.lookup f23 = some ⟨oc23, od23, .func (PySem.W.fnOf "_law_tape" "_law_tape" (defArgs s_l_tape) (defBody s_l_tape) (defScope s_l_tape) .none kV23 dc23 pm23 an23 cd23 ct23), sl23⟩) (c23 : PySem.W.codeIn K cd23 "_law_tape" = true) (k23 : PySem.W.keepIn K (.ref f23) = true)
    (a24 : PySem.W.nsIn K mainGlobals "_law_pick" = some (some (.ref f24)))
    (l24 : K.lookup f24 = some ⟨oc24, od24, .func (PySem.W.fnOf "_law_pick" "_law_pick" (defArgs s_l_pick) (defBody s_l_pick) (defScope s_l_pick) .none kV24 dc24 pm24 an24 cd24 ct24), sl24⟩) (c24 : PySem.W.codeIn K cd24 "_law_pick" = true) (k24 : PySem.W.keepIn K (.ref f24) = true)
    (a25 : PySem.W.nsIn K mainGlobals "_law_letters" = some (some (.ref f25)))
    (l25 : K.lookup f25 = some ⟨oc25, od25, .func (PySem.W.fnOf "_law_letters" "_law_letters" (defArgs s_l_letters) (defBody s_l_letters) (defScope s_l_letters) .none kV25 dc25 pm25 an25 cd25 ct25), sl25⟩) (c25 : PySem.W.codeIn K cd25 "_law_letters" = true) (k25 : PySem.W.keepIn K (.ref f25) = true)
    (a26 : PySem.W.nsIn K mainGlobals "_law_word" = some (some (.ref f26)))
    (l26 : K.lookup f26 = some ⟨oc26, od26, .func (PySem.W.fnOf "_law_word" "_law_word" (defArgs s_l_word) (defBody s_l_word) (defScope s_l_word) .none kV26 dc26 pm26 an26 cd26 ct26), sl26⟩) (c26 : PySem.W.codeIn K cd26 "_law_word" = true) (k26 : PySem.W.keepIn K (.ref f26) = true)
    (a27 : PySem.W.nsIn K mainGlobals "_law_watch" = some (some (.ref f27)))
    (l27 : K.lookup f27 = some ⟨oc27, od27, .func (PySem.W.fnOf "_law_watch" "_law_watch" (defArgs s_l_watch) (defBody s_l_watch) (defScope s_l_watch) .none kV27 dc27 pm27 an27 cd27 ct27), sl27⟩) (c27 : PySem.W.codeIn K cd27 "_law_watch" = true) (k27 : PySem.W.keepIn K (.ref f27) = true)
    (a28 : PySem.W.nsIn K mainGlobals "_law_watches" = some (some (.ref f28)))
    (l28 : K.lookup f28 = some ⟨oc28, od28, .func (PySem.W.fnOf "_law_watches" "_law_watches" (defArgs s_l_watches) (defBody s_l_watches) (defScope s_l_watches) .none kV28 dc28 pm28 an28 cd28 ct28), sl28⟩) (c28 : PySem.W.codeIn K cd28 "_law_watches" = true) (k28 : PySem.W.keepIn K (.ref f28) = true)
    (a29 : PySem.W.nsIn K mainGlobals "_law_roads" = some (some (.ref f29)))
    (l29 : K.lookup f29 = some ⟨oc29, od29, .func (PySem.W.fnOf "_law_roads" "_law_roads" (defArgs s_l_roads) (defBody s_l_roads) (defScope s_l_roads) .none kV29 dc29 pm29 an29 cd29 ct29), sl29⟩) (c29 : PySem.W.codeIn K cd29 "_law_roads" = true) (k29 : PySem.W.keepIn K (.ref f29) = true)
    (a30 : PySem.W.nsIn K mainGlobals "_law_pairs" = some (some (.ref f30)))
    (l30 : K.lookup f30 = some ⟨oc30, od30, .func (PySem.W.fnOf "_law_pairs" "_law_pairs" (defArgs s_l_pairs) (defBody s_l_pairs) (defScope s_l_pairs) .none kV30 dc30 pm30 an30 cd30 ct30), sl30⟩) (c30 : PySem.W.codeIn K cd30 "_law_pairs" = true) (k30 : PySem.W.keepIn K (.ref f30) = true)
    (a31 : PySem.W.nsIn K mainGlobals "_law_clauses" = some (some (.ref f31)))
    (l31 : K.lookup f31 = some ⟨oc31, od31, .func (PySem.W.fnOf "_law_clauses" "_law_clauses" (defArgs s_l_clauses) (defBody s_l_clauses) (defScope s_l_clauses) .none kV31 dc31 pm31 an31 cd31 ct31), sl31⟩) (c31 : PySem.W.codeIn K cd31 "_law_clauses" = true) (k31 : PySem.W.keepIn K (.ref f31) = true)
    (a32 : PySem.W.nsIn K mainGlobals "_law_holds" = some (some (.ref f32)))
    (l32 : K.lookup f32 = some ⟨oc32, od32, .func (PySem.W.fnOf "_law_holds" "_law_holds" (defArgs s_l_holds) (defBody s_l_holds) (defScope s_l_holds) .none kV32 dc32 pm32 an32 cd32 ct32), sl32⟩) (c32 : PySem.W.codeIn K cd32 "_law_holds" = true) (k32 : PySem.W.keepIn K (.ref f32) = true)
    (a33 : PySem.W.nsIn K mainGlobals "law" = some (some (.ref f33)))
    (l33 : K.lookup f33 = some ⟨oc33, od33, .func (PySem.W.fnOf "law" "law" (defArgs s_law) (defBody s_law) (defScope s_law) .none kV33 dc33 pm33 an33 cd33 ct33), sl33⟩) (c33 : PySem.W.codeIn K cd33 "law" = true) (k33 : PySem.W.keepIn K (.ref f33) = true)
    (z0 : PySem.W.nsIn K mainGlobals "isinstance" = some none)
    (z1 : PySem.W.nsIn K mainGlobals "str" = some none)
    (z2 : PySem.W.nsIn K mainGlobals "all" = some none)
    (z3 : PySem.W.nsIn K mainGlobals "len" = some none)
    (z4 : PySem.W.nsIn K mainGlobals "enumerate" = some none)
    (z5 : PySem.W.nsIn K mainGlobals "tuple" = some none)
    (z6 : PySem.W.nsIn K mainGlobals "list" = some none)
    (z7 : PySem.W.nsIn K mainGlobals "range" = some none)
    (z8 : PySem.W.nsIn K mainGlobals "sorted" = some none)
    (z9 : PySem.W.nsIn K mainGlobals "int" = some none)
    (z10 : PySem.W.nsIn K mainGlobals "zip" = some none)
    (z11 : PySem.W.nsIn K mainGlobals "min" = some none)
    {t0 : Tok} (y0 : PySem.W.nsIn K mainGlobals "LETTERS" = some (some (.str "abcdefghijklmnopqrstuvwxyz" t0)))
    {t1 : Tok} (y1 : PySem.W.nsIn K mainGlobals "MOST_WORD" = some (some (.int 40 t1)))
    {t2 : Tok} (y2 : PySem.W.nsIn K mainGlobals "MOST_WATCH" = some (some (.int 12 t2)))
    {t3 : Tok} (y3 : PySem.W.nsIn K mainGlobals "MOST_WATCHES" = some (some (.int 12 t3)))
    {t4 : Tok} (y4 : PySem.W.nsIn K mainGlobals "MOST_STEPS" = some (some (.int 80 t4)))
    : ∃ fd : FuncData, (∀ (s : Shared) (v : Value), BindsTo s fd ⟨[v], []⟩ [("_law_script", v)]) ∧ ∀ base : Heap, K.In base → base.Ns mainGlobals mg → FnOk l.prog w K mg base CX0 7 fa fd ["_law_script"] (sp_law K) := by
  have e := hfa.symm.trans (PySem.W.mg_of X G a33)
  cases e
  have F1 := fun_mk (st := s_is_letters) l1 c1 k1
  have F2 := fun_mk (st := s_is_word) l2 c2 k2
  have F3 := fun_mk (st := s_is_watch) l3 c3 k3
  have F4 := fun_mk (st := s_check_word) l4 c4 k4
  have F5 := fun_mk (st := s_Book_init) l5 c5 k5
  have F6 := fun_mk (st := s_check_book) l6 c6 k6
  have F7 := fun_mk (st := s_links_of) l7 c7 k7
  have F8 := fun_mk (st := s_distances) l8 c8 k8
  have F9 := fun_mk (st := s_shortest) l9 c9 k9
  have F10 := fun_mk (st := s_step_cost) l10 c10 k10
  have F11 := fun_mk (st := s_calm_costs) l11 c11 k11
  have F12 := fun_mk (st := s_calmest) l12 c12 k12
  have F13 := fun_mk (st := s_steps_between) l13 c13 k13
  have F14 := fun_mk (st := s_rule_by) l14 c14 k14
  have F15 := fun_mk (st := s_rule) l15 c15 k15
  have F16 := fun_mk (st := s_is_step) l16 c16 k16
  have F17 := fun_mk (st := s_are_steps) l17 c17 k17
  have F18 := fun_mk (st := s_check_steps) l18 c18 k18
  have F19 := fun_mk (st := s_calm_rule) l19 c19 k19
  have F20 := fun_mk (st := s_clause) l20 c20 k20
  have F21 := fun_mk (st := s_saying_of) l21 c21 k21
  have F22 := fun_mk (st := s_saying) l22 c22 k22
  have F23 := fun_mk (st := s_l_tape) l23 c23 k23
  have F24 := fun_mk (st := s_l_pick) l24 c24 k24
  have F25 := fun_mk (st := s_l_letters) l25 c25 k25
  have F26 := fun_mk (st := s_l_word) l26 c26 k26
  have F27 := fun_mk (st := s_l_watch) l27 c27 k27
  have F28 := fun_mk (st := s_l_watches) l28 c28 k28
  have F29 := fun_mk (st := s_l_roads) l29 c29 k29
  have F30 := fun_mk (st := s_l_pairs) l30 c30 k30
  have F31 := fun_mk (st := s_l_clauses) l31 c31 k31
  have F32 := fun_mk (st := s_l_holds) l32 c32 k32
  have F33 := fun_mk (st := s_law) l33 c33 k33
  let T : Txt w K mg := {
    C_Book := C0, c_Book := PySem.W.mg_of X G u0,
    cl_Book := ⟨pg0, hd0, po0, sa0⟩, ty_Book := ⟨wc0, wn0, wt0, wm0, kit_self⟩,
    na_Book_watches := na0_0,
    q_OTHER := kqOTHER, es_OTHER := keOTHER, sz_OTHER := knOTHER, m_OTHER := PySem.W.mg_of X G kuOTHER, D_OTHER := ⟨klOTHER, kkOTHER, kwOTHER⟩, kt_OTHER_0 := ktOTHER_0, kv_OTHER_0 := kvOTHER_0, kt_OTHER_1 := ktOTHER_1, kv_OTHER_1 := kvOTHER_1,
    f_is_letters := f1, fd_is_letters := _, F_is_letters := F1, g_is_letters := PySem.W.mg_of X G a1, b_is_letters := F1.binds (ps := ["value"]) fun _ _ _ _ _ _ us hl => match us, hl with | [_], _ => rfl,
    f_is_word := f2, fd_is_word := _, F_is_word := F2, g_is_word := PySem.W.mg_of X G a2, b_is_word := F2.binds (ps := ["thing"]) fun _ _ _ _ _ _ us hl => match us, hl with | [_], _ => rfl,
    f_is_watch := f3, fd_is_watch := _, F_is_watch := F3, g_is_watch := PySem.W.mg_of X G a3, b_is_watch := F3.binds (ps := ["thing"]) fun _ _ _ _ _ _ us hl => match us, hl with | [_], _ => rfl,
    f_check_word := f4, fd_check_word := _, F_check_word := F4, g_check_word := PySem.W.mg_of X G a4, b_check_word := F4.binds (ps := ["word"]) fun _ _ _ _ _ _ us hl => match us, hl with | [_], _ => rfl,
    f_Book_init := f5, fd_Book_init := _, F_Book_init := F5, M_Book := ⟨mk0, a5, i5, kc0⟩, b_Book_init := F5.binds (ps := ["self", "watches"]) fun _ _ _ _ _ _ us hl => match us, hl with | [_, _], _ => rfl,
    f_check_book := f6, fd_check_book := _, F_check_book := F6, g_check_book := PySem.W.mg_of X G a6, b_check_book := F6.binds (ps := ["book"]) fun _ _ _ _ _ _ us hl => match us, hl with | [_], _ => rfl,
    f_links_of := f7, fd_links_of := _, F_links_of := F7, g_links_of := PySem.W.mg_of X G a7, b_links_of := F7.binds (ps := ["watches", "word"]) fun _ _ _ _ _ _ us hl => match us, hl with | [_, _], _ => rfl,
    f_distances := f8, fd_distances := _, F_distances := F8, g_distances := PySem.W.mg_of X G a8, b_distances := F8.binds (ps := ["links"]) fun _ _ _ _ _ _ us hl => match us, hl with | [_], _ => rfl,
    f_shortest := f9, fd_shortest := _, F_shortest := F9, g_shortest := PySem.W.mg_of X G a9, b_shortest := F9.binds (ps := ["watches", "word"]) fun _ _ _ _ _ _ us hl => match us, hl with | [_, _], _ => rfl,
    f_step_cost := f10, fd_step_cost := _, F_step_cost := F10, g_step_cost := PySem.W.mg_of X G a10, b_step_cost := F10.binds (ps := ["costs", "spot", "up", "other"]) fun _ _ _ _ _ _ us hl => match us, hl with | [_, _, _, _], _ => rfl,
    f_calm_costs := f11, fd_calm_costs := _, F_calm_costs := F11, g_calm_costs := PySem.W.mg_of X G a11, b_calm_costs := F11.binds (ps := ["links"]) fun _ _ _ _ _ _ us hl => match us, hl with | [_], _ => rfl,
    f_calmest := f12, fd_calmest := _, F_calmest := F12, g_calmest := PySem.W.mg_of X G a12, b_calmest := F12.binds (ps := ["book", "word"]) fun _ _ _ _ _ _ us hl => match us, hl with | [_, _], _ => rfl,
    f_steps_between := f13, fd_steps_between := _, F_steps_between := F13, g_steps_between := PySem.W.mg_of X G a13, b_steps_between := F13.binds (ps := ["word", "spots"]) fun _ _ _ _ _ _ us hl => match us, hl with | [_, _], _ => rfl,
    f_rule_by := f14, fd_rule_by := _, F_rule_by := F14, g_rule_by := PySem.W.mg_of X G a14, b_rule_by := F14.binds (ps := ["watches", "word"]) fun _ _ _ _ _ _ us hl => match us, hl with | [_, _], _ => rfl,
    f_rule := f15, fd_rule := _, F_rule := F15, g_rule := PySem.W.mg_of X G a15, b_rule := F15.binds (ps := ["book", "word"]) fun _ _ _ _ _ _ us hl => match us, hl with | [_, _], _ => rfl,
    f_is_step := f16, fd_is_step := _, F_is_step := F16, g_is_step := PySem.W.mg_of X G a16, b_is_step := F16.binds (ps := ["thing"]) fun _ _ _ _ _ _ us hl => match us, hl with | [_], _ => rfl,
    f_are_steps := f17, fd_are_steps := _, F_are_steps := F17, g_are_steps := PySem.W.mg_of X G a17, b_are_steps := F17.binds (ps := ["thing"]) fun _ _ _ _ _ _ us hl => match us, hl with | [_], _ => rfl,
    f_check_steps := f18, fd_check_steps := _, F_check_steps := F18, g_check_steps := PySem.W.mg_of X G a18, b_check_steps := F18.binds (ps := ["rule"]) fun _ _ _ _ _ _ us hl => match us, hl with | [_], _ => rfl,
    f_calm_rule := f19, fd_calm_rule := _, F_calm_rule := F19, g_calm_rule := PySem.W.mg_of X G a19, b_calm_rule := F19.binds (ps := ["book", "word"]) fun _ _ _ _ _ _ us hl => match us, hl with | [_, _], _ => rfl,
    f_clause := f20, fd_clause := _, F_clause := F20, g_clause := PySem.W.mg_of X G a20, b_clause := F20.binds (ps := ["way", "watch", "place", "at"]) fun _ _ _ _ _ _ us hl => match us, hl with | [_, _, _, _], _ => rfl,
    f_saying_of := f21, fd_saying_of := _, F_saying_of := F21, g_saying_of := PySem.W.mg_of X G a21, b_saying_of := F21.binds (ps := ["steps"]) fun _ _ _ _ _ _ us hl => match us, hl with | [_], _ => rfl,
    f_saying := f22, fd_saying := _, F_saying := F22, g_saying := PySem.W.mg_of X G a22, b_saying := F22.binds (ps := ["rule"]) fun _ _ _ _ _ _ us hl => match us, hl with | [_], _ => rfl,
    f_l_tape := f23, fd_l_tape := _, F_l_tape := F23, g_l_tape := PySem.W.mg_of X G a23, b_l_tape := F23.binds (ps := ["_law_script"]) fun _ _ _ _ _ _ us hl => match us, hl with | [_], _ => rfl,
    f_l_pick := f24, fd_l_pick := _, F_l_pick := F24, g_l_pick := PySem.W.mg_of X G a24, b_l_pick := F24.binds (ps := ["_law_tape_here", "_law_size"]) fun _ _ _ _ _ _ us hl => match us, hl with | [_, _], _ => rfl,
    f_l_letters := f25, fd_l_letters := _, F_l_letters := F25, g_l_letters := PySem.W.mg_of X G a25, b_l_letters := F25.binds (ps := ["_law_tape_here", "_law_many"]) fun _ _ _ _ _ _ us hl => match us, hl with | [_, _], _ => rfl,
    f_l_word := f26, fd_l_word := _, F_l_word := F26, g_l_word := PySem.W.mg_of X G a26, b_l_word := F26.binds (ps := ["_law_tape_here", "_law_most"]) fun _ _ _ _ _ _ us hl => match us, hl with | [_, _], _ => rfl,
    f_l_watch := f27, fd_l_watch := _, F_l_watch := F27, g_l_watch := PySem.W.mg_of X G a27, b_l_watch := F27.binds (ps := ["_law_tape_here", "_law_word_here", "_law_most"]) fun _ _ _ _ _ _ us hl => match us, hl with | [_, _, _], _ => rfl,
    f_l_watches := f28, fd_l_watches := _, F_l_watches := F28, g_l_watches := PySem.W.mg_of X G a28, b_l_watches := F28.binds (ps := ["_law_tape_here", "_law_word_here", "_law_many", "_law_most"]) fun _ _ _ _ _ _ us hl => match us, hl with | [_, _, _, _], _ => rfl,
    f_l_roads := f29, fd_l_roads := _, F_l_roads := F29, g_l_roads := PySem.W.mg_of X G a29, b_l_roads := F29.binds (ps := ["_law_tape_here", "_law_word_here"]) fun _ _ _ _ _ _ us hl => match us, hl with | [_, _], _ => rfl,
    f_l_pairs := f30, fd_l_pairs := _, F_l_pairs := F30, g_l_pairs := PySem.W.mg_of X G a30, b_l_pairs := F30.binds (ps := ["_law_many", "_law_roads_here", "_law_word_here"]) fun _ _ _ _ _ _ us hl => match us, hl with | [_, _, _], _ => rfl,
    f_l_clauses := f31, fd_l_clauses := _, F_l_clauses := F31, g_l_clauses := PySem.W.mg_of X G a31, b_l_clauses := F31.binds (ps := ["_law_text"]) fun _ _ _ _ _ _ us hl => match us, hl with | [_], _ => rfl,
    f_l_holds := f32, fd_l_holds := _, F_l_holds := F32, g_l_holds := PySem.W.mg_of X G a32, b_l_holds := F32.binds (ps := ["_law_many", "_law_roads_here", "_law_clauses_here"]) fun _ _ _ _ _ _ us hl => match us, hl with | [_, _, _], _ => rfl,
    f_law := fa, fd_law := _, F_law := F33, g_law := PySem.W.mg_of X G a33, b_law := F33.binds (ps := ["_law_script"]) fun _ _ _ _ _ _ us hl => match us, hl with | [_], _ => rfl,
    n_isinstance := PySem.W.mg_none_of X G z0,
    n_str := PySem.W.mg_none_of X G z1,
    n_all := PySem.W.mg_none_of X G z2,
    n_len := PySem.W.mg_none_of X G z3,
    n_enumerate := PySem.W.mg_none_of X G z4,
    n_tuple := PySem.W.mg_none_of X G z5,
    n_list := PySem.W.mg_none_of X G z6,
    n_range := PySem.W.mg_none_of X G z7,
    n_sorted := PySem.W.mg_none_of X G z8,
    n_int := PySem.W.mg_none_of X G z9,
    n_zip := PySem.W.mg_none_of X G z10,
    n_min := PySem.W.mg_none_of X G z11,
    t_LETTERS := t0, m_LETTERS := PySem.W.mg_of X G y0,
    t_MOST_WORD := t1, m_MOST_WORD := PySem.W.mg_of X G y1,
    t_MOST_WATCH := t2, m_MOST_WATCH := PySem.W.mg_of X G y2,
    t_MOST_WATCHES := t3, m_MOST_WATCHES := PySem.W.mg_of X G y3,
    t_MOST_STEPS := t4, m_MOST_STEPS := PySem.W.mg_of X G y4 }
  exact ⟨_, fun s v => .of_eq rfl, fun base _ _ => ok_law T⟩
theorem walk {l : PySem.W.OpenLaw} {q : Program} {loose : List Str} {XP : (Str → Option Value) → Heap → Prop} {YP : World → Heap → Prop} {d : DefRec} {K : Params → PySem.W.Frag} (hn : l.most = some 63) (hdf : d.params.defaults = [])
    (hY : ∀ (w : World) (h : Heap), YP w h → (K w.params).In h)
    (F : ∀ (w : World) (mg : Str → Option Value) (fa : Addr) (h : Heap), (K w.params).In h → h.Ns mainGlobals mg → mg d.name = some (.ref fa) →
      ∃ fd : FuncData, (∀ (s : Shared) (u : Value), BindsTo s fd ⟨[u], []⟩ [("_law_script", u)]) ∧ ∀ base : Heap, (K w.params).In base → base.Ns mainGlobals mg → FnOk l.prog w (K w.params) mg base CX0 7 fa fd ["_law_script"] (sp_law (K w.params))) :
    PySem.W.WalkO q loose XP YP l.row.toRowW d [] (fun f vs => PySem.call f vs) :=
  L2.walk_of (n := 63) (k := 7) (x := "_law_script") (CX := fun _ => CX0) (sp := fun w => sp_law (K w.params)) hn (by decide) hdf ⟨rfl, by decide, by decide⟩ hY F (fun _ _ a ns hl _ hS => ⟨a, ns, rfl, hS, hl, fun _ => rfl⟩) fun _ _ _ _ _ z => z
end W
open PySem PySem.W PyProof.Rows
set_option maxRecDepth 100000 in
set_option maxHeartbeats 0 in
theorem PySem.Challenge.cw_watchedways_k21_whole_sayings_hold_holds : PySem.Challenge.rw_watchedways_k21_whole_sayings_hold.Holds := by
  w_on; o_law; k_head; (case hw => w_witness2)
  k_fill
  refine W.walk (l := PySem.Challenge.rw_watchedways_k21_whole_sayings_hold) rfl rfl (fun w h Y => PySem.W.kIn_of Y) ?F
  case F =>
    intro w mg fa h KX G hmg
    refine' W.all_mk KX G hmg ?u0 ?pg0 ?hd0 ?po0 ?sa0 ?wc0 ?wm0 ?wn0 ?wt0 ?na0_0 ?kuOTHER ?klOTHER ?kkOTHER ?kwOTHER ?kvOTHER_0 ?kvOTHER_1 ?a1 ?l1 ?c1 ?k1 ?a2 ?l2 ?c2 ?k2 ?a3 ?l3 ?c3 ?k3 ?a4 ?l4 ?c4 ?k4 ?a5 ?i5 ?mk0 ?kc0 ?l5 ?c5 ?k5 ?a6 ?l6 ?c6 ?k6 ?a7 ?l7 ?c7 ?k7 ?a8 ?l8 ?c8 ?k8 ?a9 ?l9 ?c9 ?k9 ?a10 ?l10 ?c10 ?k10 ?a11 ?l11 ?c11 ?k11 ?a12 ?l12 ?c12 ?k12 ?a13 ?l13 ?c13 ?k13 ?a14 ?l14 ?c14 ?k14 ?a15 ?l15 ?c15 ?k15 ?a16 ?l16 ?c16 ?k16 ?a17 ?l17 ?c17 ?k17 ?a18 ?l18 ?c18 ?k18 ?a19 ?l19 ?c19 ?k19 ?a20 ?l20 ?c20 ?k20 ?a21 ?l21 ?c21 ?k21 ?a22 ?l22 ?c22 ?k22 ?a23 ?l23 ?c23 ?k23 ?a24 ?l24 ?c24 ?k24 ?a25 ?l25 ?c25 ?k25 ?a26 ?l26 ?c26 ?k26 ?a27 ?l27 ?c27 ?k27 ?a28 ?l28 ?c28 ?k28 ?a29 ?l29 ?c29 ?k29 ?a30 ?l30 ?c30 ?k30 ?a31 ?l31 ?c31 ?k31 ?a32 ?l32 ?c32 ?k32 ?a33 ?l33 ?c33 ?k33 ?z0 ?z1 ?z2 ?z3 ?z4 ?z5 ?z6 ?z7 ?z8 ?z9 ?z10 ?z11 ?y0 ?y1 ?y2 ?y3 ?y4
    (case u0 => k_is); (case pg0 => k_is); (case hd0 => k_is); (case po0 => k_is); (case sa0 => k_is); (case wc0 => k_is); (case wm0 => k_is); (case wn0 => k_is); (case wt0 => k_is); (case na0_0 => k_is); (case kuOTHER => k_is); (case klOTHER => k_is); (case kkOTHER => exact ⟨⟨_, _, rfl, rfl⟩, ⟨_, _, rfl, rfl⟩, trivial⟩); (case kwOTHER => rfl); (case kvOTHER_0 => k_is); (case kvOTHER_1 => k_is); (case a1 => k_is); (case l1 => k_is); (case c1 => k_is); (case k1 => k_is); (case a2 => k_is); (case l2 => k_is); (case c2 => k_is); (case k2 => k_is); (case a3 => k_is); (case l3 => k_is); (case c3 => k_is); (case k3 => k_is); (case a4 => k_is); (case l4 => k_is); (case c4 => k_is); (case k4 => k_is); (case a5 => k_is); (case i5 => k_is); (case mk0 => k_is); (case kc0 => k_is); (case l5 => k_is); (case c5 => k_is); (case k5 => k_is); (case a6 => k_is); (case l6 => k_is); (case c6 => k_is); (case k6 => k_is); (case a7 => k_is); (case l7 => k_is); (case c7 => k_is); (case k7 => k_is); (case a8 => k_is); (case l8 => k_is); (case c8 => k_is); (case k8 => k_is); (case a9 => k_is); (case l9 => k_is); (case c9 => k_is); (case k9 => k_is); (case a10 => k_is); (case l10 => k_is); (case c10 => k_is); (case k10 => k_is); (case a11 => k_is); (case l11 => k_is); (case c11 => k_is); (case k11 => k_is); (case a12 => k_is); (case l12 => k_is); (case c12 => k_is); (case k12 => k_is); (case a13 => k_is); (case l13 => k_is); (case c13 => k_is); (case k13 => k_is); (case a14 => k_is); (case l14 => k_is); (case c14 => k_is); (case k14 => k_is); (case a15 => k_is); (case l15 => k_is); (case c15 => k_is); (case k15 => k_is); (case a16 => k_is); (case l16 => k_is); (case c16 => k_is); (case k16 => k_is); (case a17 => k_is); (case l17 => k_is); (case c17 => k_is); (case k17 => k_is); (case a18 => k_is); (case l18 => k_is); (case c18 => k_is); (case k18 => k_is); (case a19 => k_is); (case l19 => k_is); (case c19 => k_is); (case k19 => k_is); (case a20 => k_is); (case l20 => k_is); (case c20 => k_is); (case k20 => k_is); (case a21 => k_is); (case l21 => k_is); (case c21 => k_is); (case k21 => k_is); (case a22 => k_is); (case l22 => k_is); (case c22 => k_is); (case k22 => k_is); (case a23 => k_is); (case l23 => k_is); (case c23 => k_is); (case k23 => k_is); (case a24 => k_is); (case l24 => k_is); (case c24 => k_is); (case k24 => k_is); (case a25 => k_is); (case l25 => k_is); (case c25 => k_is); (case k25 => k_is); (case a26 => k_is); (case l26 => k_is); (case c26 => k_is); (case k26 => k_is); (case a27 => k_is); (case l27 => k_is); (case c27 => k_is); (case k27 => k_is); (case a28 => k_is); (case l28 => k_is); (case c28 => k_is); (case k28 => k_is); (case a29 => k_is); (case l29 => k_is); (case c29 => k_is); (case k29 => k_is); (case a30 => k_is); (case l30 => k_is); (case c30 => k_is); (case k30 => k_is); (case a31 => k_is); (case l31 => k_is); (case c31 => k_is); (case k31 => k_is); (case a32 => k_is); (case l32 => k_is); (case c32 => k_is); (case k32 => k_is); (case a33 => k_is); (case l33 => k_is); (case c33 => k_is); (case k33 => k_is); (case z0 => k_is); (case z1 => k_is); (case z2 => k_is); (case z3 => k_is); (case z4 => k_is); (case z5 => k_is); (case z6 => k_is); (case z7 => k_is); (case z8 => k_is); (case z9 => k_is); (case z10 => k_is); (case z11 => k_is); (case y0 => k_is); (case y1 => k_is); (case y2 => k_is); (case y3 => k_is); (case y4 => k_is)
