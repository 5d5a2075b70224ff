import PyProof.Rows.All
import Wide.All
import OpenK.AllK
import Wide.FinOn
import HandS.ForMost
import HandS.Wide
import HandS.IsInst
import HandS.Conv
import HandS.Deep
import HandS.Strs
import HandS.SetIn
import HandS.SetFor
import HandS.SetBool
import HandS.TupSets
import HandS.WideBits
import HandS.RevRange
import HandS.More
import HandS.TupAny
import PyProof.AutoSeq1
import PyProof.StrOps2
import HandS.Codes
import HandS.SortInts
import PySem.Challenge.RW_reforge_k09_code_queries
set_option Elab.async false
set_option linter.all false
set_option maxRecDepth 100000
set_option maxHeartbeats 4000000
namespace Rf
open PySem PySem.Spec PyProof.Rows L2
/-! ### names of readings -/
abbrev rAddI : R2 := rI0 fun i j => .int (i + j)
abbrev rSubI : R2 := rI0 fun i j => .int (i - j)
abbrev rMulI : R2 := rI CMul fun i j => .int (i * j)
abbrev rMulW : R2 := rI CMulW fun i j => .int (i * j)
abbrev rDivI : R2 := rI CDiv fun i j => .int (i / j)
abbrev rDivW : R2 := rI CDivW fun i j => .int (i / j)
abbrev rModI : R2 := rI (fun _ j => 0 < j) fun i j => .int (i % j)
abbrev rPowI : R2 := rI CPow fun i j => .int (i ^ j.toNat)
abbrev rLtI : R2 := rI0 fun i j => .bl (decide (i < j))
abbrev rLeI : R2 := rI0 fun i j => .bl (decide (i ≤ j))
abbrev rGtI : R2 := rI0 fun i j => .bl (decide (j < i))
abbrev rGeI : R2 := rI0 fun i j => .bl (decide (j ≤ i))
abbrev rAddS : R2 := fun x y H Q => ∃ i j, x = .str i ∧ y = .str j ∧ i.length + j.length ≤ sizeLine ∧ Q (.str (i ++ j)) H
abbrev rIsN0 : R2 := fun x y H Q => y = .non ∧ Q (.bl (decide (x = .non))) H
abbrev rNotN0 : R2 := fun x y H Q => y = .non ∧ Q (.bl (!decide (x = .non))) H
def rLenS (K : PySem.W.Frag) : List V → Hp → VK → Prop := fun xs H Q => ∃ p ys, xs = [.ref p] ∧ (SqL K H p ys ∨ SqT K H p ys) ∧ Q (.int ys.length) H
def rLenT : List V → Hp → VK → Prop := fun xs H Q => ∃ z, xs = [.str z] ∧ z.length ≤ sizeLine ∧ Q (.int z.length) H
def rLenD : List V → Hp → VK → Prop := fun xs H Q => ∃ a kvs, xs = [V.ref a] ∧ Rd H a (.dK kvs) ∧ Q (.int kvs.length) H
def rInt1 : List V → Hp → VK → Prop := fun xs H Q => (∃ i, xs = [.int i] ∧ Q (.int i) H) ∨ ∃ k, xs = [.bl k] ∧ Q (.int (if k then 1 else 0)) H
def rStrI : List V → Hp → VK → Prop := fun xs H Q => ∃ i, xs = [.int i] ∧ i.natAbs.log2 < 1920 ∧ Q (.str (toString i)) H
def rAbsI : List V → Hp → VK → Prop := fun xs H Q => ∃ i, xs = [.int i] ∧ Q (.int (if i < 0 then -i else i)) H
def rMax2 : List V → Hp → VK → Prop := fun xs H Q => ∃ i j, xs = [.int i, .int j] ∧ Q (.int (if j > i then j else i)) H
def rMin2 : List V → Hp → VK → Prop := fun xs H Q => ∃ i j, xs = [.int i, .int j] ∧ Q (.int (if j < i then j else i)) H
def rListOf (K : PySem.W.Frag) : List V → Hp → VK → Prop := fun xs H Q => ∃ p ys, xs = [.ref p] ∧ (SqL K H p ys ∨ SqT K H p ys) ∧ ∀ l, H l = none → Q (.ref l) (upd H l (.lst ys))
def rJoin (K : PySem.W.Frag) : V → List V → Hp → VK → Prop := fun x xs H Q => ∃ a p, ∃ ys : List Str, x = .str a ∧ xs = [.ref p] ∧ (SqL K H p (ys.map V.str) ∨ SqT K H p (ys.map V.str)) ∧ (ys.map (·.length)).sum + ys.length * a.length ≤ 16777216 ∧ Q (.str (Txt.join a ys)) H
def rInsert : V → List V → Hp → VK → Prop := fun x vs H Q => ∃ (l : Addr) (xs : List V) (i : Int) (y : V), x = .ref l ∧ vs = [.int i, y] ∧ H l = some (.lst xs) ∧ xs.length < sizeLine ∧ 0 ≤ i ∧ i < 2 ^ 63 ∧ Q .non (upd H l (.lst (xs.take i.toNat ++ [y] ++ xs.drop i.toNat)))
def tTruth (K : PySem.W.Frag) (ta : TE) : TT := fun σ H Q => ta σ H fun x H' => ∃ k, TruV K x H' k ∧ Q k H'
section
variable {X : Cx}
theorem call_lenDR : CallR X (.builtin "len") rLenD := by
  intro pins s σ H xs us Q I r h
  obtain ⟨a, kvs, rfl, e, q⟩ := h
  obtain ⟨u, rfl, ru⟩ := vals1 r
  cases ru
  exact d_len I e fun t s' I' => ⟨.int kvs.length, H, I', ⟨t, rfl⟩, q⟩
end

/-! ### heaps -/
/-- all but what is in S stands as it did -/
def Keep (S : List Addr) (H H' : Hp) : Prop := ∀ a o, H a = some o → a ∉ S → H' a = some o
theorem Keep.refl {S : List Addr} {H : Hp} : Keep S H H := fun _ _ h _ => h
theorem Keep.trans {S : List Addr} {H H1 H2 : Hp} (a : Keep S H H1) (b : Keep S H1 H2) : Keep S H H2 := fun c o h n => b c o (a c o h n) n
theorem Keep.mono {S S' : List Addr} {H H1 : Hp} (a : Keep S H H1) (h : ∀ x, x ∈ S → x ∈ S') : Keep S' H H1 := fun c o e n => a c o e fun m => n (h c m)
theorem Keep.at {S : List Addr} {H H1 : Hp} {a : Addr} {o : HO} (k : Keep S H H1) (n : a ∉ S) (h : H a = some o) : H1 a = some o := k a o h n
theorem Keep.new {S : List Addr} {H : Hp} {p : Addr} {o : HO} (h : H p = none) : Keep S H (upd H p o) := fun a u e _ => by
  rw [upd_ne (ne_of_none e h)]
  exact e
theorem Keep.put {S : List Addr} {H : Hp} {p : Addr} {o : HO} (h : p ∈ S) : Keep S H (upd H p o) := fun a u e n => by
  rw [upd_ne (fun z => n (by rw [z]; exact h))]
  exact e
theorem Keep.same {H H1 : Hp} (k : Keep [] H H1) : Same H H1 := fun a o h => k a o h (by simp)
theorem Keep.of {H H1 : Hp} {S : List Addr} (k : Same H H1) : Keep S H H1 := fun a o h _ => k a o h
theorem Keep.free {S : List Addr} {H H1 : Hp} {l : Addr} (k : Keep S H H1) (h : H1 l = none) (n : l ∉ S) : H l = none := by
  cases q : H l with
  | none => rfl
  | some o =>
    rw [k l o q n] at h
    cases h
/-- an object that was not there may change -/
theorem Keep.fresh {S : List Addr} {H H1 : Hp} {p : Addr} {o : HO} (k : Keep S H H1) (h : H p = none) : Keep S H (upd H1 p o) := fun a u e n => by
  rw [upd_ne (ne_of_none e h)]
  exact k a u e n
theorem Keep.upd {S : List Addr} {H H1 : Hp} {p : Addr} {o : HO} (k : Keep S H H1) (h : p ∈ S) : Keep S H (L2.upd H1 p o) := k.trans (Keep.put h)
theorem Keep.rd {S : List Addr} {H H1 : Hp} {a : Addr} {u : HO} (k : Keep S H H1) (n : a ∉ S) (h : Rd H a u) : Rd H1 a u := by
  rcases h with h | ⟨o, h⟩
  · exact Or.inl (k a _ h n)
  · exact Or.inr ⟨o, k a _ h n⟩
theorem Keep.seq {K : PySem.W.Frag} {S : List Addr} {H H1 : Hp} {a : Addr} {xs : List V} (k : Keep S H H1) (n : a ∉ S) (h : SqL K H a xs) : SqL K H1 a xs := by
  rcases h with h | h
  · exact Or.inl (k.rd n h)
  · exact Or.inr h
theorem Keep.tup {K : PySem.W.Frag} {S : List Addr} {H H1 : Hp} {a : Addr} {xs : List V} (k : Keep S H H1) (n : a ∉ S) (h : SqT K H a xs) : SqT K H1 a xs := by
  rcases h with h | h
  · exact Or.inl (k.rd n h)
  · exact Or.inr h
theorem sqL {K : PySem.W.Frag} {H : Hp} {a : Addr} {xs : List V} (h : H a = some (.lst xs)) : SqL K H a xs := Or.inl (Or.inl h)
theorem sqT {K : PySem.W.Frag} {H : Hp} {a : Addr} {xs : List V} (h : H a = some (.tup xs)) : SqT K H a xs := Or.inl (Or.inl h)
theorem rdO {H : Hp} {a : Addr} {u : HO} (h : H a = some u) : Rd H a u := Or.inl h
theorem ne1 {a p : Addr} (h : a ≠ p) : a ∉ [p] := by simpa using h
theorem upd_ne' {H : Hp} {a b : Addr} {o x : HO} (h : b ≠ a) (e : H b = some x) : upd H a o b = some x := by rw [upd_ne h]; exact e
theorem sz {n : Nat} (h : n ≤ 100000) : n ≤ sizeLine := Nat.le_trans h (by decide)
theorem szL {n : Nat} (h : n < 100000) : n < sizeLine := Nat.lt_of_lt_of_le h (by decide)

/-! ### readings, one step each -/
section
variable {K : PySem.W.Frag} {D : Ends} {σ : L2.St} {H : Hp} {Q : VK} {x y z v : V} {ta tb tc te to ti tl : TE} {t u : TS} {c c' : TT} {i j k : Int} {n m : Nat} {p q a b : Addr} {xs ys vs : List V} {s s' : Str} {tA tA' : TA} {QA : List V → Hp → Prop} {QT : Bool → Hp → Prop} {kvs : List (Key × V)}
theorem go_seq (h : t { D with nx := u D } σ H) : tSeq t u D σ H := h
theorem go_next (h : D.nx σ H) : tNext D σ H := h
theorem go_brk (h : D.bk σ H) : tBreak D σ H := h
theorem go_cont (h : D.ct σ H) : tCont D σ H := h
theorem go_asgN (h : te σ H fun x H1 => D.nx (σ.set n (some x)) H1) : tAsg te (gName n) D σ H := h
theorem go_asgS {ts : TSet} (h : te σ H fun x H1 => to σ H1 fun o H2 => ti σ H2 fun i H3 => ts o i x H3 fun H4 => D.nx σ H4) : tAsg te (gSub to ti ts) D σ H := h
theorem go_asgG {g : TG} (h : te σ H fun x H1 => g x σ H1 D.nx) : tAsg te g D σ H := h
theorem go_gName {R : L2.St → Hp → Prop} (h : R (σ.set n (some v)) H) : gName n v σ H R := h
theorem go_drop (h : te σ H fun _ H1 => D.nx σ H1) : tDrop te D σ H := h
theorem go_ret (h : te σ H D.rt) : tRet te D σ H := h
theorem go_retN (h : D.rt .non H) : tRetN D σ H := h
theorem go_ifS (h : c σ H fun b H1 => if b = true then t D σ H1 else u D σ H1) : tIfS c t u D σ H := h
theorem go_var (h : σ[n]? = some (some v)) (q : Q v H) : tVar n σ H Q := ⟨v, h, q⟩
theorem go_c (q : Q v H) : tC v σ H Q := q
theorem go_op {r : R2} (h : ta σ H fun x H1 => tb σ H1 fun y H2 => r x y H2 Q) : tOp r ta tb σ H Q := h
theorem go_un {r : V → Hp → VK → Prop} (h : ta σ H fun x H1 => r x H1 Q) : tUn r ta σ H Q := h
theorem go_neg (q : Q (.int (-i)) H) : rU (fun i => .int (-i)) (.int i) H Q := ⟨i, rfl, q⟩
theorem go_add (q : Q (.int (i + j)) H) : rAddI (.int i) (.int j) H Q := ⟨i, j, rfl, rfl, q⟩
theorem go_sub (q : Q (.int (i - j)) H) : rSubI (.int i) (.int j) H Q := ⟨i, j, rfl, rfl, q⟩
theorem go_mul (h : CMul i j) (q : Q (.int (i * j)) H) : rMulI (.int i) (.int j) H Q := ⟨i, j, rfl, rfl, h, q⟩
theorem go_mulW (h : CMulW i j) (q : Q (.int (i * j)) H) : rMulW (.int i) (.int j) H Q := ⟨i, j, rfl, rfl, h, q⟩
theorem go_div (h0 : 0 < j) (h1 : j < 1073741824) (q : Q (.int (i / j)) H) : rDivI (.int i) (.int j) H Q := ⟨i, j, rfl, rfl, ⟨h0, h1⟩, q⟩
theorem go_divW (h : CDivW i j) (q : Q (.int (i / j)) H) : rDivW (.int i) (.int j) H Q := ⟨i, j, rfl, rfl, h, q⟩
theorem go_mod (h : 0 < j) (q : Q (.int (i % j)) H) : rModI (.int i) (.int j) H Q := ⟨i, j, rfl, rfl, h, q⟩
theorem go_pow (h : CPow i j) (q : Q (.int (i ^ j.toNat)) H) : rPowI (.int i) (.int j) H Q := ⟨i, j, rfl, rfl, h, q⟩
theorem go_lt (q : Q (.bl (decide (i < j))) H) : rLtI (.int i) (.int j) H Q := ⟨i, j, rfl, rfl, q⟩
theorem go_le (q : Q (.bl (decide (i ≤ j))) H) : rLeI (.int i) (.int j) H Q := ⟨i, j, rfl, rfl, q⟩
theorem go_gt (q : Q (.bl (decide (j < i))) H) : rGtI (.int i) (.int j) H Q := ⟨i, j, rfl, rfl, q⟩
theorem go_ge (q : Q (.bl (decide (j ≤ i))) H) : rGeI (.int i) (.int j) H Q := ⟨i, j, rfl, rfl, q⟩
theorem go_addS (h : s.length + s'.length ≤ sizeLine) (q : Q (.str (s ++ s')) H) : rAddS (.str s) (.str s') H Q := ⟨s, s', rfl, rfl, h, q⟩
theorem dec_int : decide (V.int i = V.int j) = decide (i = j) := by
  by_cases h : i = j
  · subst h; simp
  · have h' : ¬ V.int i = V.int j := fun z => h (V.int.inj z)
    rw [decide_eq_false h, decide_eq_false h']
theorem dec_str : decide (V.str s = V.str s') = decide (s = s') := by
  by_cases h : s = s'
  · subst h; simp
  · have h' : ¬ V.str s = V.str s' := fun z => h (V.str.inj z)
    rw [decide_eq_false h, decide_eq_false h']
theorem go_eqI (q : Q (.bl (decide (i = j))) H) : rEq (.int i) (.int j) H Q := ⟨rfl, by rw [dec_int]; exact q⟩
theorem go_neI (q : Q (.bl (!decide (i = j))) H) : rNe (.int i) (.int j) H Q := ⟨rfl, by rw [dec_int]; exact q⟩
theorem go_eqS (q : Q (.bl (decide (s = s'))) H) : rEq (.str s) (.str s') H Q := ⟨rfl, by rw [dec_str]; exact q⟩
theorem go_neS (q : Q (.bl (!decide (s = s'))) H) : rNe (.str s) (.str s') H Q := ⟨rfl, by rw [dec_str]; exact q⟩
theorem go_isN (q : Q (.bl true) H) : rIsN0 .non .non H Q := ⟨rfl, q⟩
theorem go_isNi (q : Q (.bl false) H) : rIsN0 (.int i) .non H Q := ⟨rfl, q⟩
theorem go_isNs (q : Q (.bl false) H) : rIsN0 (.str s) .non H Q := ⟨rfl, q⟩
theorem go_isNr (q : Q (.bl false) H) : rIsN0 (.ref a) .non H Q := ⟨rfl, q⟩
theorem go_notN (q : Q (.bl false) H) : rNotN0 .non .non H Q := ⟨rfl, q⟩
theorem go_notNi (q : Q (.bl true) H) : rNotN0 (.int i) .non H Q := ⟨rfl, q⟩
theorem go_notNs (q : Q (.bl true) H) : rNotN0 (.str s) .non H Q := ⟨rfl, q⟩
theorem go_notNr (q : Q (.bl true) H) : rNotN0 (.ref a) .non H Q := ⟨rfl, q⟩
theorem go_test (h : te σ H fun x H' => ∃ k, x = .bl k ∧ QT k H') : tTest te σ H QT := h
theorem go_tB (h : te σ H fun x H' => ∃ k, x = .bl k ∧ QT k H') : tB te σ H QT := h
theorem go_bl {b : Bool} {P : Bool → Prop} (h : P b) : ∃ k, V.bl b = .bl k ∧ P k := ⟨b, rfl, h⟩
theorem go_tAnd (h : c σ H fun b H1 => if b = true then c' σ H1 QT else QT false H1) : tAnd c c' σ H QT := h
theorem go_tOr (h : c σ H fun b H1 => if b = true then QT true H1 else c' σ H1 QT) : tOr c c' σ H QT := h
theorem go_tNot (h : c σ H fun b H1 => QT (!b) H1) : tNot c σ H QT := h
theorem go_andV (h : ta σ H fun x H1 => ∃ k, x = .bl k ∧ if k = true then tb σ H1 Q else Q (.bl false) H1) : tAndV ta tb σ H Q := h
theorem go_orV (h : ta σ H fun x H1 => ∃ k, x = .bl k ∧ if k = true then Q (.bl true) H1 else tb σ H1 Q) : tOrV ta tb σ H Q := h
theorem go_notV (h : ta σ H fun x H1 => ∃ k, x = .bl k ∧ Q (.bl (!k)) H1) : tNotV ta σ H Q := h
theorem go_tIf (h : c σ H fun b H1 => if b = true then ta σ H1 Q else tb σ H1 Q) : tIf c ta tb σ H Q := h
theorem go_ite {P : Prop} [Decidable P] {A B : Prop} (h1 : P → A) (h2 : ¬ P → B) : if decide P = true then A else B := by
  by_cases h : P
  · rw [decide_eq_true h]; exact h1 h
  · rw [decide_eq_false h]; exact h2 h
theorem go_iteN {P : Prop} [Decidable P] {A B : Prop} (h1 : ¬ P → A) (h2 : P → B) : if (!decide P) = true then A else B := by
  by_cases h : P
  · rw [decide_eq_true h]; exact h2 h
  · rw [decide_eq_false h]; exact h1 h
theorem go_iteB {b : Bool} {A B : Prop} (h1 : b = true → A) (h2 : b = false → B) : if b = true then A else B := by
  cases b
  · exact h2 rfl
  · exact h1 rfl
theorem go_iteNB {b : Bool} {A B : Prop} (h1 : b = false → A) (h2 : b = true → B) : if (!b) = true then A else B := by
  cases b
  · exact h1 rfl
  · exact h2 rfl
theorem go_iteT {A B : Prop} (h : A) : if true = true then A else B := h
theorem go_iteF {A B : Prop} (h : B) : if false = true then A else B := by rw [if_neg Bool.false_ne_true]; exact h
theorem go_nT {A B : Prop} (h : B) : if (!true) = true then A else B := by rw [Bool.not_true, if_neg Bool.false_ne_true]; exact h
theorem go_nF {A B : Prop} (h : A) : if (!false) = true then A else B := h
theorem go_cb {r : List V → Hp → VK → Prop} (h : tA σ H fun vs H1 => r vs H1 Q) : tCB r tA σ H Q := h
theorem go_cons (h : ta σ H fun x H1 => tA σ H1 fun xs H2 => QA (x :: xs) H2) : tCons ta tA σ H QA := h
theorem go_nil (h : QA [] H) : tNil σ H QA := h
theorem go_tup (h : tA σ H fun xs H1 => xs.length ≤ sizeLine ∧ ∀ p, H1 p = none → Q (.ref p) (upd H1 p (.tup xs))) : tTup tA σ H Q := h
theorem go_lst (h : tA σ H fun xs H1 => xs.length ≤ sizeLine ∧ ∀ p, H1 p = none → Q (.ref p) (upd H1 p (.lst xs))) : tLst tA σ H Q := h
theorem go_call {sp : Sp} {dvs : List V} {E : XK} (h : tA σ H fun vs H1 => sp (vs ++ dvs) H1 Q E) : tCall sp dvs E tA σ H Q := h
theorem go_bm {ty : String} {r : V → List V → Hp → VK → Prop} (h : to σ H fun x H1 => tyV K ty x H1 ∧ tA σ H1 fun xs H2 => r x xs H2 Q) : tBM K ty r to tA σ H Q := h
theorem go_bm0 {ty : String} {r : V → List V → Hp → VK → Prop} (h : to σ H fun x H1 => tyV K ty x H1 ∧ r x [] H1 Q) : tBM0 K ty r to σ H Q := h
theorem go_tyL (h : H p = some (.lst xs)) {B : Prop} (q : B) : tyV K "list" (.ref p) H ∧ B := ⟨Or.inl ⟨rfl, xs, sqL h⟩, q⟩
theorem go_ixL (h : SqL K H p xs) (ha : atI xs i = some v) (q : Q v H) : rIxL K (.ref p) (.int i) H Q := ⟨p, xs, i, v, rfl, rfl, h, ha, q⟩
theorem go_ixT (h : SqT K H p xs) (ha : atI xs i = some v) (q : Q v H) : rIxT K (.ref p) (.int i) H Q := ⟨p, xs, i, v, rfl, rfl, h, ha, q⟩
theorem go_setL {R : Hp → Prop} (h : H p = some (.lst xs)) (hj : ixN xs.length k = some n) (e : xs.set n v = ys) (q : R (upd H p (.lst ys))) : rSetL (.ref p) (.int k) v H R := ⟨p, xs, k, n, rfl, rfl, h, hj, by rw [e]; exact q⟩
theorem go_app (h : H p = some (.lst xs)) (hl : xs.length < sizeLine) (q : Q .non (upd H p (.lst (xs ++ [v])))) : rAppend (.ref p) [v] H Q := ⟨p, xs, v, rfl, rfl, h, hl, q⟩
theorem go_pop (h : H p = some (.lst (xs ++ [v]))) (q : Q v (upd H p (.lst xs))) : rPop (.ref p) [] H Q := ⟨p, xs ++ [v], v, rfl, rfl, h, by simp, by rw [List.dropLast_concat]; exact q⟩
theorem go_lenL (h : SqL K H p xs) (q : Q (.int xs.length) H) : rLenS K [.ref p] H Q := ⟨p, xs, rfl, Or.inl h, q⟩
theorem go_lenT (h : SqT K H p xs) (q : Q (.int xs.length) H) : rLenS K [.ref p] H Q := ⟨p, xs, rfl, Or.inr h, q⟩
theorem go_lenS (h : s.length ≤ sizeLine) (q : Q (.int s.length) H) : rLenT [.str s] H Q := ⟨s, rfl, h, q⟩
theorem go_lenD (h : Rd H p (.dK kvs)) (q : Q (.int kvs.length) H) : rLenD [.ref p] H Q := ⟨p, kvs, rfl, h, q⟩
theorem go_int (q : Q (.int i) H) : rInt1 [.int i] H Q := Or.inl ⟨i, rfl, q⟩
theorem go_intB {b : Bool} (q : Q (.int (if b then 1 else 0)) H) : rInt1 [.bl b] H Q := Or.inr ⟨b, rfl, q⟩
theorem go_sum {ns : List Int} (h : SqL K H p (ns.map V.int)) (q : Q (.int ns.sum) H) : rSum K [.ref p] H Q := ⟨p, ns, rfl, h, q⟩
theorem go_listL (h : SqL K H p xs) (q : ∀ l, H l = none → Q (.ref l) (upd H l (.lst xs))) : rListOf K [.ref p] H Q := ⟨p, xs, rfl, Or.inl h, q⟩
theorem go_listT (h : SqT K H p xs) (q : ∀ l, H l = none → Q (.ref l) (upd H l (.lst xs))) : rListOf K [.ref p] H Q := ⟨p, xs, rfl, Or.inr h, q⟩
theorem go_dgetI {r : Option V} (h : Rd H a (.dK kvs)) (e : valV kvs (Sum.inl i) = r) : DGet H a (.int i) r := Or.inl ⟨kvs, .inl i, h, rfl, e.symm⟩
theorem go_dgetS {r : Option V} (h : Rd H a (.dK kvs)) (e : valV kvs (Sum.inr s) = r) : DGet H a (.str s) r := Or.inl ⟨kvs, .inr s, h, rfl, e.symm⟩
theorem go_dget (h : ta σ H fun x H1 => tb σ H1 fun y H2 => ∃ a v, x = .ref a ∧ DGet H2 a y (some v) ∧ Q v H2) : tDGet ta tb σ H Q := h
theorem go_dgetE (h : DGet H a y (some v)) (q : Q v H) : ∃ a' v', V.ref a = .ref a' ∧ DGet H a' y (some v') ∧ Q v' H := ⟨a, v, rfl, h, q⟩
theorem go_dinT (h : ta σ H fun y H1 => tb σ H1 fun x H2 => ∃ a o, x = .ref a ∧ DGet H2 a y o ∧ Q (.bl o.isSome) H2) : tDIn ta tb σ H Q := h
theorem go_dninT (h : ta σ H fun y H1 => tb σ H1 fun x H2 => ∃ a o, x = .ref a ∧ DGet H2 a y o ∧ Q (.bl (!o.isSome)) H2) : tDNotIn ta tb σ H Q := h
theorem go_dinE {o : Option V} {P : Option V → Prop} (h : DGet H a y o) (q : P o) : ∃ a' o', V.ref a = .ref a' ∧ DGet H a' y o' ∧ P o' := ⟨a, o, rfl, h, q⟩
theorem go_dput (h : tc σ H fun v H1 => ta σ H1 fun x H2 => tb σ H2 fun y H3 => ∃ a H4, x = .ref a ∧ DPut H3 a y v H4 ∧ D.nx σ H4) : sDPut ta tb tc D σ H := h
theorem go_dputI {P : Hp → Prop} (h : H a = some (.dK kvs)) (hl : kvs.length < sizeLine) (q : P (upd H a (.dK (putK kvs (Sum.inl i) v)))) : ∃ a' H4, V.ref a = .ref a' ∧ DPut H a' (.int i) v H4 ∧ P H4 :=
  ⟨a, _, rfl, Or.inl ⟨kvs, .inl i, h, rfl, hl, rfl⟩, q⟩
theorem go_dputS {P : Hp → Prop} (h : H a = some (.dK kvs)) (hl : kvs.length < sizeLine) (q : P (upd H a (.dK (putK kvs (Sum.inr s) v)))) : ∃ a' H4, V.ref a = .ref a' ∧ DPut H a' (.str s) v H4 ∧ P H4 :=
  ⟨a, _, rfl, Or.inl ⟨kvs, .inr s, h, rfl, hl, rfl⟩, q⟩
theorem go_dnew (h : ∀ p, H p = none → Q (.ref p) (upd H p (.dK []))) : tDNewK σ H Q := h
theorem go_sl {r : V → Option Int → Option Int → Hp → VK → Prop} {tx ty : TO} (h : te σ H fun x H1 => tx σ H1 fun l H2 => ty σ H2 fun u H3 => r x l u H3 Q) : tSl r te tx ty σ H Q := h
theorem go_noPart {R : Option Int → Hp → Prop} (h : R none H) : tNoPart σ H R := h
theorem go_part {R : Option Int → Hp → Prop} (h : te σ H fun x H1 => ∃ i, x = .int i ∧ R (some i) H1) : tPart te σ H R := h
theorem go_partI {P : Int → Prop} (h : P i) : ∃ i', V.int i = .int i' ∧ P i' := ⟨i, rfl, h⟩
theorem go_slL {lo hi : Option Int} (h : SqL K H a xs) (q : ∀ p, H p = none → Q (.ref p) (upd H p (.lst (cutV xs lo hi)))) : rSlL K (.ref a) lo hi H Q := ⟨a, xs, rfl, h, q⟩
theorem go_truth (h : ta σ H fun x H' => ∃ k, TruV K x H' k ∧ QT k H') : tTruth K ta σ H QT := h
theorem go_listD (h : H p = some (.dK kvs)) (q : ∀ l, H l = none → Q (.ref l) (upd H l (.lst (kvs.map fun kv => kV kv.1)))) : rListD [.ref p] H Q := ⟨p, kvs, rfl, h, q⟩
end
theorem natAbs64 {i : Int} (h0 : -18446744073709551616 < i) (h1 : i < 18446744073709551616) : i.natAbs < 2 ^ 64 := by omega
theorem cmulW {i j : Int} (h0 : -18446744073709551616 < i) (h1 : i < 18446744073709551616) (h2 : -18446744073709551616 < j) (h3 : j < 18446744073709551616) : CMulW i j :=
  wide_mul (natAbs64 h0 h1) (natAbs64 h2 h3) (by decide) (by decide) (by decide)
theorem cdivW {i j : Int} (h0 : 0 < j) (h1 : j < 18446744073709551616) : CDivW i j := wide_div h0 (natAbs64 (by omega) h1) (by decide) (by decide)
/-! ### lists of ints compared -/
theorem dpAll_ints {K : PySem.W.Frag} {H : Hp} : ∀ xs : List Int, DpAll K H (xs.map V.int) (xs.map PyData.int)
  | [] => .nil
  | x :: xs => .cons (.int x) (dpAll_ints xs)
theorem depthAll_ints : ∀ xs : List Int, PyData.depthAll (xs.map PyData.int) = 0
  | [] => by simp [PyData.depthAll]
  | x :: xs => by simp [PyData.depthAll, PyData.depth, depthAll_ints xs]
theorem canAll_ints : ∀ xs : List Int, PyData.canLayAll0 (xs.map PyData.int) = true
  | [] => by simp [PyData.canLayAll0]
  | x :: xs => by simp [PyData.canLayAll0, PyData.canLay0, canAll_ints xs]
theorem shaped_ints (xs : List Int) : SeqAt.shaped (.list (xs.map PyData.int)) = true := by
  simp [SeqAt.shaped, PyData.canLay0, PyData.depth, canAll_ints, depthAll_ints]
theorem eqvAll_ints : ∀ xs ys : List Int, PyData.eqvAll (xs.map PyData.int) (ys.map PyData.int) = decide (xs = ys)
  | [], [] => by simp [PyData.eqvAll]
  | [], y :: ys => by simp [PyData.eqvAll]
  | x :: xs, [] => by simp [PyData.eqvAll]
  | x :: xs, y :: ys => by
    simp only [List.map_cons, PyData.eqvAll, PyData.eqv, eqvAll_ints xs ys, List.cons.injEq]
    by_cases h : x = y <;> simp [h]
theorem go_eqInts {K : PySem.W.Frag} {H : Hp} {a b : Addr} {xs ys : List Int} {Q : VK} (h : SqL K H a (xs.map V.int)) (h' : SqL K H b (ys.map V.int)) (q : Q (.bl (decide (xs = ys))) H) : rEqD K (.ref a) (.ref b) H Q :=
  ⟨_, _, .lst h (dpAll_ints xs), .lst h' (dpAll_ints ys), shaped_ints xs, shaped_ints ys, by
    show Q (.bl (PyData.eqvAll (xs.map PyData.int) (ys.map PyData.int))) H
    rw [eqvAll_ints]; exact q⟩
theorem go_pair {A B : Prop} (h : A) (q : B) : A ∧ B := ⟨h, q⟩
theorem go_eqNil {K : PySem.W.Frag} {H : Hp} {a b : Addr} {xs : List Int} {Q : VK} (h : SqL K H a (xs.map V.int)) (h' : SqL K H b []) (q : Q (.bl (decide (xs = []))) H) : rEqD K (.ref a) (.ref b) H Q :=
  go_eqInts (ys := []) h h' q
theorem go_alloc {n : Nat} {H : Hp} {R : Addr → Prop} (h : n ≤ sizeLine) (q : ∀ p, H p = none → R p) : n ≤ sizeLine ∧ ∀ p, H p = none → R p := ⟨h, q⟩
section
variable {σ : L2.St} {H : Hp} {c c' : TT} {QT : Bool → Hp → Prop} {P P' : Prop} [Decidable P] [Decidable P']
theorem go_or2 (h1 : ∀ R : Bool → Hp → Prop, R (decide P) H → c σ H R) (h2 : ∀ R : Bool → Hp → Prop, R (decide P') H → c' σ H R) (q : QT (decide (P ∨ P')) H) : tOr c c' σ H QT := by
  refine h1 _ ?_
  refine go_ite (fun h => ?_) (fun h => ?_)
  · rw [decide_eq_true (Or.inl h)] at q; exact q
  · refine h2 _ ?_
    have e : decide P' = decide (P ∨ P') := by simp [h]
    rw [e]; exact q
theorem go_and2 (h1 : ∀ R : Bool → Hp → Prop, R (decide P) H → c σ H R) (h2 : P → ∀ R : Bool → Hp → Prop, R (decide P') H → c' σ H R) (q : QT (decide (P ∧ P')) H) : tAnd c c' σ H QT := by
  refine h1 _ ?_
  refine go_ite (fun h => ?_) (fun h => ?_)
  · refine h2 h _ ?_
    have e : decide P' = decide (P ∧ P') := by simp [h]
    rw [e]; exact q
  · have e : decide (P ∧ P') = false := by simp [h]
    rw [e] at q; exact q
theorem go_not1 (h1 : ∀ R : Bool → Hp → Prop, R (decide P) H → c σ H R) (q : QT (decide (¬ P)) H) : tNot c σ H QT := by
  refine h1 _ ?_
  have e : (!decide P) = decide (¬ P) := by simp
  rw [e]; exact q
theorem bnot_dec : (!decide P) = decide (¬ P) := by simp
end
/-! ### loops -/
def ForQ (J : It) (g : TG) (tb : TS) (D : Ends) (σ : L2.St) (H : Hp) : Prop := ∃ W : Nat → Nat → L2.St → Hp → Prop, (∃ m, W 0 m σ H) ∧ ∀ i m σ H, W i m σ H →
  (J.stop i H ∧ D.nx σ H) ∨ (J.go i H ∧ ∃ N : L2.St → Hp → Prop, (∀ σ' H', N σ' H' → ∃ m', m' < m ∧ W (i + 1) m' σ' H') ∧ ∀ x H', J.yld i H x H' → g x σ H' fun σ2 H2 => tb { D with nx := N, ct := N, bk := D.nx } σ2 H2)
section
variable {K : PySem.W.Frag} {D : Ends} {σ : L2.St} {H : Hp} {Q : VK} {g : TG} {tb : TS} {wi : TI} {a d : Addr} {xs : List V} {lo : Int} {n : Nat} {c : TT} {tl : TE} {ta : TA} {R : It → Hp → Prop}
theorem go_for (h : wi σ H fun J H1 => ForQ J g tb D σ H1) : tFor wi g tb D σ H := h
theorem go_iList (h : tl σ H fun x H1 => ∃ a, x = .ref a ∧ (∃ xs, SqL K H1 a xs) ∧ R (Itl K a) H1) : iList K tl σ H R := h
theorem go_iTup (h : tl σ H fun x H1 => ∃ a, x = .ref a ∧ (∃ xs, SqT K H1 a xs) ∧ R (Itt K a) H1) : iTup K tl σ H R := h
theorem go_iRng1 (h : ta σ H fun vs H1 => ∃ j : Int, vs = [.int j] ∧ -(2 ^ 62) ≤ j ∧ j < 2 ^ 62 ∧ R (Itr 0 j.toNat) H1) : iRng1 ta σ H R := h
theorem go_iRng2 (h : ta σ H fun vs H1 => ∃ i j : Int, vs = [.int i, .int j] ∧ (-(2 ^ 62) ≤ i ∧ i < 2 ^ 62 ∧ -(2 ^ 62) ≤ j ∧ j < 2 ^ 62) ∧ R (Itr i (j - i).toNat) H1) : iRng2 ta σ H R := h
theorem go_rng1 {j : Int} {P : It → Prop} (h1 : -4611686018427387904 ≤ j) (h2 : j < 4611686018427387904) (q : P (Itr 0 j.toNat)) : ∃ j' : Int, [V.int j] = [V.int j'] ∧ -(2 ^ 62) ≤ j' ∧ j' < 2 ^ 62 ∧ P (Itr 0 j'.toNat) := ⟨j, rfl, h1, h2, q⟩
theorem for_pre {xs : List V} {Pv : List V → Prop} {i : Nat} {x : V} (hi : xs[i]? = some x) : xs = xs.take i ++ x :: xs.drop (i + 1) ∧ xs.take (i + 1) = xs.take i ++ [x] := by
  obtain ⟨h, rfl⟩ := List.getElem?_eq_some_iff.mp hi
  refine ⟨?_, ?_⟩
  · rw [List.getElem_cons_drop, List.take_append_drop]
  · rw [List.take_succ_eq_append_getElem h]
/-- for x in xs: Pv by the part taken -/
theorem go_forL (hS : SqL K H a xs) (Pv : List V → L2.St → Hp → Prop) (h0 : Pv [] σ H) (hl : ∀ pre σ' H', Pv pre σ' H' → SqL K H' a xs)
    (hs : ∀ pre x post σ' H', xs = pre ++ x :: post → Pv pre σ' H' → g x σ' H' fun σ2 H2 => tb { D with nx := Pv (pre ++ [x]), ct := Pv (pre ++ [x]), bk := D.nx } σ2 H2)
    (hd : ∀ σ' H', Pv xs σ' H' → D.nx σ' H') : ∃ a', V.ref a = .ref a' ∧ (∃ xs, SqL K H a' xs) ∧ ForQ (Itl K a') g tb D σ H := by
  refine ⟨a, rfl, ⟨xs, hS⟩, for_list (K := K) (a := a) (xs := xs) (fun i σ H => Pv (xs.take i) σ H) h0 (fun i σ H _ p => hl _ _ _ p) (fun i x σ' H' hi p => ?_) (fun σ' H' p => hd σ' H' (by rw [List.take_length] at p; exact p))⟩
  obtain ⟨e1, e2⟩ := for_pre (Pv := fun _ => True) hi
  have := hs (xs.take i) x (xs.drop (i + 1)) σ' H' e1 p
  rw [← e2] at this
  exact this
theorem go_forT (hS : SqT K H a xs) (Pv : List V → L2.St → Hp → Prop) (h0 : Pv [] σ H) (hl : ∀ pre σ' H', Pv pre σ' H' → SqT K H' a xs)
    (hs : ∀ pre x post σ' H', xs = pre ++ x :: post → Pv pre σ' H' → g x σ' H' fun σ2 H2 => tb { D with nx := Pv (pre ++ [x]), ct := Pv (pre ++ [x]), bk := D.nx } σ2 H2)
    (hd : ∀ σ' H', Pv xs σ' H' → D.nx σ' H') : ∃ a', V.ref a = .ref a' ∧ (∃ xs, SqT K H a' xs) ∧ ForQ (Itt K a') g tb D σ H := by
  refine ⟨a, rfl, ⟨xs, hS⟩, for_tup (K := K) (a := a) (xs := xs) (fun i σ H => Pv (xs.take i) σ H) h0 (fun i σ H _ p => hl _ _ _ p) (fun i x σ' H' hi p => ?_) (fun σ' H' p => hd σ' H' (by rw [List.take_length] at p; exact p))⟩
  obtain ⟨e1, e2⟩ := for_pre (Pv := fun _ => True) hi
  have := hs (xs.take i) x (xs.drop (i + 1)) σ' H' e1 p
  rw [← e2] at this
  exact this
/-- for k in range(..): Pv by the turn -/
theorem go_forR (Pv : Nat → L2.St → Hp → Prop) (h0 : Pv 0 σ H) (hs : ∀ (i : Nat) σ' H', i < n → Pv i σ' H' → g (.int (lo + i)) σ' H' fun σ2 H2 => tb { D with nx := Pv (i + 1), ct := Pv (i + 1), bk := D.nx } σ2 H2)
    (hd : ∀ σ' H', Pv n σ' H' → D.nx σ' H') : ForQ (Itr lo n) g tb D σ H := for_range Pv h0 hs hd
/-- while -/
theorem go_while (Pv : Nat → L2.St → Hp → Prop) (m : Nat) (h0 : Pv m σ H)
    (hs : ∀ m σ' H', Pv m σ' H' → c σ' H' fun b H1 => if b = true then ∃ N : L2.St → Hp → Prop, (∀ σ2 H2, N σ2 H2 → ∃ m', m' < m ∧ Pv m' σ2 H2) ∧ tb { D with nx := N, ct := N, bk := D.nx } σ' H1 else D.nx σ' H1) : tWhile c tb D σ H :=
  ⟨Pv, ⟨m, h0⟩, hs⟩
theorem go_turn {Pv : Nat → L2.St → Hp → Prop} {m : Nat} {B : (L2.St → Hp → Prop) → Prop} (h : B fun σ2 H2 => ∃ m', m' < m ∧ Pv m' σ2 H2) : ∃ N : L2.St → Hp → Prop, (∀ σ2 H2, N σ2 H2 → ∃ m', m' < m ∧ Pv m' σ2 H2) ∧ B N := ⟨_, fun _ _ h => h, h⟩
/-- for k in d: the dict locked, Pv by the part taken -/
def lockEnds (D : Ends) (d : Addr) (od : Obj) (u : HO) : Ends := ⟨fun σ' H' => H' d = some (.frz od u) ∧ D.nx σ' (upd H' d u), fun v H' => H' d = some (.frz od u) ∧ D.rt v (upd H' d u), fun σ' H' => H' d = some (.frz od u) ∧ D.bk σ' (upd H' d u), fun σ' H' => H' d = some (.frz od u) ∧ D.ct σ' (upd H' d u)⟩
theorem go_forK {kvs : List (Key × V)} (hv : σ[n]? = some (some (.ref d))) (hk : H d = some (.dK kvs)) (Pv : Obj → List (Key × V) → L2.St → Hp → Prop) (h0 : ∀ od, Pv od [] σ (upd H d (.frz od (.dK kvs))))
    (hl : ∀ od pre σ' H', Pv od pre σ' H' → H' d = some (.frz od (.dK kvs)))
    (hs : ∀ od pre k v post σ' H', kvs = pre ++ (k, v) :: post → Pv od pre σ' H' → g (kV k) σ' H' fun σ2 H2 => tb { lockEnds D d od (.dK kvs) with nx := Pv od (pre ++ [(k, v)]), ct := Pv od (pre ++ [(k, v)]), bk := (lockEnds D d od (.dK kvs)).nx } σ2 H2)
    (hd : ∀ od σ' H', Pv od kvs σ' H' → D.nx σ' (upd H' d (.dK kvs))) : tLock (tFor (iKeys (tVar n)) g tb) D σ H := by
  refine ⟨d, .dK kvs, hk, trivial, fun od => ?_⟩
  refine ⟨.ref d, hv, d, od, rfl, Or.inl ⟨kvs, upd_same, ?_⟩⟩
  refine ⟨fun i m σ' H' => m = kvs.length - i ∧ i ≤ kvs.length ∧ Pv od (kvs.take i) σ' H', ⟨kvs.length, by simp, Nat.zero_le _, h0 od⟩, ?_⟩
  rintro i m σ' H' ⟨rfl, hi, p⟩
  have q := hl _ _ _ _ p
  by_cases hlt : i < kvs.length
  · refine .inr ⟨⟨q, hlt⟩, Pv od (kvs.take (i + 1)), fun σ2 H2 p' => ⟨kvs.length - (i + 1), by omega, rfl, hlt, p'⟩, fun x H2 y => ?_⟩
    obtain ⟨e, k, v, ek, ex⟩ := y
    subst e ex
    obtain ⟨h, e⟩ := List.getElem?_eq_some_iff.mp ek
    have e1 : kvs = kvs.take i ++ (k, v) :: kvs.drop (i + 1) := by rw [← e, List.getElem_cons_drop, List.take_append_drop]
    have e2 : kvs.take (i + 1) = kvs.take i ++ [(k, v)] := by rw [List.take_succ_eq_append_getElem h, e]
    rw [e2]
    exact hs od (kvs.take i) k v (kvs.drop (i + 1)) σ' _ e1 p
  · have e : i = kvs.length := by omega
    subst e
    rw [List.take_length] at p
    exact .inl ⟨⟨q, Nat.le_refl _⟩, q, hd od σ' H' p⟩
end
/-! ### comprehensions -/
def LcQ (J : It) (g : TG) (tt : TT) (te : TE) (vs : List Nat) (Q : VK) (σ : L2.St) (H1 : Hp) : Prop := ∀ D, H1 D = none → ∃ W : Nat → Nat → Hp → Prop, (∃ m, W 0 m (upd H1 D (.lst []))) ∧ ∀ i m H, W i m H →
  (J.stop i H ∧ Q (.ref D) H) ∨ (J.go i H ∧ ∃ Nx : Hp → Prop, (∀ H', Nx H' → ∃ m', m' < m ∧ W (i + 1) m' H') ∧ ∀ x H', J.yld i H x H' → g x (wipe σ vs) H' fun σ2 H2 => wipe σ2 vs = wipe σ vs ∧ tt σ2 H2 fun b H3 =>
    if b = true then te σ2 H3 fun y H4 => ∃ acc, H4 D = some (.lst acc) ∧ acc.length < sizeLine ∧ Nx (upd H4 D (.lst (acc ++ [y]))) else Nx H3)
section
variable {K : PySem.W.Frag} {σ : L2.St} {H : Hp} {Q : VK} {g : TG} {tt : TT} {te : TE} {wi : TI} {a : Addr} {xs : List V} {lo : Int} {n : Nat} {vs : List Nat}
theorem go_lc (h : wi σ H fun J H1 => LcQ J g tt te vs Q σ H1) : tLc wi g tt te vs σ H Q := h
theorem go_lcL (hS : SqL K H a xs) (Pv : Addr → List V → Hp → Prop) (h0 : ∀ Dn, H Dn = none → Pv Dn [] (upd H Dn (.lst []))) (hl : ∀ Dn pre H', Pv Dn pre H' → SqL K H' a xs)
    (hs : ∀ Dn pre x post H', H Dn = none → xs = pre ++ x :: post → Pv Dn pre H' → g x (wipe σ vs) H' fun σ2 H2 => wipe σ2 vs = wipe σ vs ∧ tt σ2 H2 fun b H3 =>
      if b = true then te σ2 H3 fun y H4 => ∃ acc, H4 Dn = some (.lst acc) ∧ acc.length < sizeLine ∧ Pv Dn (pre ++ [x]) (upd H4 Dn (.lst (acc ++ [y]))) else Pv Dn (pre ++ [x]) H3)
    (hd : ∀ Dn H', H Dn = none → Pv Dn xs H' → Q (.ref Dn) H') : ∃ a', V.ref a = .ref a' ∧ (∃ xs, SqL K H a' xs) ∧ LcQ (Itl K a') g tt te vs Q σ H := by
  refine ⟨a, rfl, ⟨xs, hS⟩, fun Dn hD => ?_⟩
  refine lc_list (K := K) (a := a) (xs := xs) (fun i H => Pv Dn (xs.take i) H) (h0 Dn hD) (fun i H _ p => hl _ _ _ p) (fun i x H' hi p => ?_) (fun H' p => hd Dn H' hD (by rw [List.take_length] at p; exact p))
  obtain ⟨e1, e2⟩ := for_pre (Pv := fun _ => True) hi
  have := hs Dn (xs.take i) x (xs.drop (i + 1)) H' hD e1 p
  rw [← e2] at this
  exact this
theorem go_lcR (Pv : Addr → Nat → Hp → Prop) (h0 : ∀ Dn, H Dn = none → Pv Dn 0 (upd H Dn (.lst [])))
    (hs : ∀ Dn (i : Nat) H', H Dn = none → i < n → Pv Dn i H' → g (.int (lo + i)) (wipe σ vs) H' fun σ2 H2 => wipe σ2 vs = wipe σ vs ∧ tt σ2 H2 fun b H3 =>
      if b = true then te σ2 H3 fun y H4 => ∃ acc, H4 Dn = some (.lst acc) ∧ acc.length < sizeLine ∧ Pv Dn (i + 1) (upd H4 Dn (.lst (acc ++ [y]))) else Pv Dn (i + 1) H3)
    (hd : ∀ Dn H', H Dn = none → Pv Dn n H' → Q (.ref Dn) H') : LcQ (Itr lo n) g tt te vs Q σ H := fun Dn hD =>
  lc_range (Pv Dn) (h0 Dn hD) (fun i H' hi p => hs Dn i H' hD hi p) (fun H' p => hd Dn H' hD p)
/-- [f x for x in xs], nothing written -/
theorem go_lcM {j : Nat} (hS : SqL K H a xs) (f : V → V) (hl : xs.length < sizeLine) (hw2 : ∀ v, wipe ((wipe σ vs).set j (some v)) vs = wipe σ vs)
    (he : ∀ x ∈ xs, ∀ (H' : Hp) (R : VK), Keep [] H H' → R (f x) H' → te ((wipe σ vs).set j (some x)) H' R)
    (hd : ∀ Dn, H Dn = none → Q (.ref Dn) (upd H Dn (.lst (xs.map f)))) : ∃ a', V.ref a = .ref a' ∧ (∃ xs, SqL K H a' xs) ∧ LcQ (Itl K a') (gName j) tYes te vs Q σ H := by
  refine go_lcL hS (fun Dn pre H' => H' = upd H Dn (.lst (pre.map f)) ∧ H Dn = none) (fun Dn hD => ⟨rfl, hD⟩) (fun Dn pre H' ⟨e, hD⟩ => ?_) (fun Dn pre x post H' hD ex ⟨e, _⟩ => ?_) (fun Dn H' hD ⟨e, _⟩ => ?_)
  · rw [e]; exact (Keep.new (S := []) hD).seq (by simp) hS
  · subst e
    refine ⟨hw2 x, ?_⟩
    unfold tYes
    dsimp only
    rw [if_pos rfl]
    refine he x (by rw [ex]; simp) _ _ (Keep.new hD) ?_
    have hlt : (pre.map f).length < sizeLine := by
      have : pre.length < xs.length := by rw [ex, List.length_append, List.length_cons]; omega
      rw [List.length_map]; omega
    refine ⟨_, upd_same, hlt, ?_, hD⟩
    rw [upd_upd, List.map_append]
    rfl
  · subst e; exact hd Dn hD
end
/-! ### dicts of ints, lists of pairs -/
def dI (l : List (Int × Int)) : List (Key × V) := l.map fun p => (Sum.inl p.1, V.int p.2)
def Tup2 (H : Hp) (a : Addr) (p : Int × Int) : Prop := H a = some (.tup [.int p.1, .int p.2])
theorem Tup2.keep {S : List Addr} {H H' : Hp} (k : Keep S H H') (ns : ∀ a ∈ S, ∀ xs, H a ≠ some (.tup xs)) {as : List Addr} {ms : List (Int × Int)} (h : Paired (Tup2 H) as ms) : Paired (Tup2 H') as ms :=
  Paired.mapP h fun a p e => k a _ e fun m => ns a m _ e
theorem Paired.get {α β : Type} {F : α → β → Prop} : ∀ {l : List α} {r : List β} {i : Nat} {x : α}, Paired F l r → l[i]? = some x → ∃ y, r[i]? = some y ∧ F x y
  | _, _, _, _, .nil, e => by simp at e
  | _, _, 0, _, .cons h _, e => by simp at e; subst e; exact ⟨_, rfl, h⟩
  | _, _, i + 1, _, .cons _ t, e => by
    obtain ⟨y, e1, e2⟩ := Paired.get (i := i) t (by simpa using e)
    exact ⟨y, by simpa using e1, e2⟩
theorem Paired.split {α β : Type} {F : α → β → Prop} : ∀ {l l2 : List α} {r : List β}, Paired F (l ++ l2) r → ∃ r1 r2, r = r1 ++ r2 ∧ Paired F l r1 ∧ Paired F l2 r2
  | [], l2, r, h => ⟨[], r, rfl, .nil, h⟩
  | a :: l, l2, _, .cons h t => by
    obtain ⟨r1, r2, e, h1, h2⟩ := Paired.split (l := l) t
    exact ⟨_ :: r1, r2, by rw [e]; rfl, .cons h h1, h2⟩
theorem Paired.app {α β : Type} {F : α → β → Prop} : ∀ {l l2 : List α} {r r2 : List β}, Paired F l r → Paired F l2 r2 → Paired F (l ++ l2) (r ++ r2)
  | _, _, _, _, .nil, h => h
  | _, _, _, _, .cons a t, h => .cons a (Paired.app t h)
theorem inV_ints {x : Int} {l : List Int} : inV (.int x) (l.map V.int) = decide (x ∈ l) := by
  induction l with
  | nil => rfl
  | cons a l ih =>
    have e : inV (.int x) ((a :: l).map V.int) = (eqV (.int a) (.int x) || inV (.int x) (l.map V.int)) := rfl
    rw [e, ih]
    have e2 : eqV (.int a) (.int x) = decide (a = x) := by show (a == x) = decide (a = x); by_cases h : a = x <;> simp [h]
    rw [e2]
    by_cases h : a = x
    · subst h; simp
    · have h' : ¬ x = a := fun z => h z.symm
      simp [h, h']
theorem flat_ints (l : List Int) : (l.map V.int).all flatV = true := by
  induction l with
  | nil => rfl
  | cons a l ih => simp [List.all_cons, flatV, ih]
section
variable {K : PySem.W.Frag} {D : Ends} {σ : L2.St} {H : Hp} {Q : VK} {g : TG} {tt : TT} {te : TE} {a d p : Addr} {xs : List V} {n : Nat} {vs : List Nat} {x : Int} {l : List Int}
theorem go_inI (h : SqL K H p (l.map V.int)) (q : Q (.bl (decide (x ∈ l))) H) : rIn K false (.int x) (.ref p) H Q := ⟨p, _, rfl, Or.inl h, rfl, flat_ints l, by rw [inV_ints]; exact q⟩
theorem go_notInI (h : SqL K H p (l.map V.int)) (q : Q (.bl (!decide (x ∈ l))) H) : rIn K true (.int x) (.ref p) H Q := ⟨p, _, rfl, Or.inl h, rfl, flat_ints l, by rw [inV_ints]; exact q⟩
/-- the target a, b of a pair -/
theorem go_gTup2 {R : L2.St → Hp → Prop} {i j : Nat} {y z : V} (h : SqT K H a [y, z]) (q : R ((σ.set i (some y)).set j (some z)) H) : gTup K 2 (gCons (gName i) (gCons (gName j) gNil)) (.ref a) σ H R :=
  ⟨a, [y, z], rfl, h, rfl, y, [z], rfl, z, [], rfl, rfl, q⟩
/-- [f x for .. in xs], nothing written, any target -/
theorem go_lcG (hS : SqL K H a xs) (f : V → V) (hl : xs.length < sizeLine)
    (he : ∀ x ∈ xs, ∀ (H' : Hp) (R : VK), Keep [] H H' → R (f x) H' → g x (wipe σ vs) H' fun σ2 H2 => wipe σ2 vs = wipe σ vs ∧ te σ2 H2 R)
    (gm : ∀ x σ H (R R' : L2.St → Hp → Prop), g x σ H R → (∀ s h, R s h → R' s h) → g x σ H R')
    (hd : ∀ Dn, H Dn = none → Q (.ref Dn) (upd H Dn (.lst (xs.map f)))) : ∃ a', V.ref a = .ref a' ∧ (∃ xs, SqL K H a' xs) ∧ LcQ (Itl K a') g tYes te vs Q σ H := by
  refine go_lcL hS (fun Dn pre H' => H' = upd H Dn (.lst (pre.map f)) ∧ H Dn = none) (fun Dn hD => ⟨rfl, hD⟩) (fun Dn pre H' ⟨e, hD⟩ => ?_) (fun Dn pre x post H' hD ex ⟨e, _⟩ => ?_) (fun Dn H' hD ⟨e, _⟩ => ?_)
  · rw [e]; exact (Keep.new (S := []) hD).seq (by simp) hS
  · subst e
    have hlt : (pre.map f).length < sizeLine := by
      have : pre.length < xs.length := by rw [ex, List.length_append, List.length_cons]; omega
      rw [List.length_map]; omega
    refine gm _ _ _ _ _ (he x (by rw [ex]; simp) _ (fun y H4 => ∃ acc, H4 Dn = some (.lst acc) ∧ acc.length < sizeLine ∧ upd H4 Dn (.lst (acc ++ [y])) = upd H Dn (.lst ((pre ++ [x]).map f)) ∧ H Dn = none) (Keep.new hD) ?_) ?_
    · refine ⟨_, upd_same, hlt, ?_, hD⟩
      rw [upd_upd, List.map_append]
      rfl
    · intro s h ⟨h1, h2⟩
      refine ⟨h1, ?_⟩
      unfold tYes
      dsimp only
      rw [if_pos rfl]
      exact h2
  · subst e; exact hd Dn hD
/-- [f k for k in d if p k] -/
theorem go_lcK {kvs : List (Key × V)} {j : Nat} (hv : σ[n]? = some (some (.ref d))) (hk : H d = some (.dK kvs)) (f : Key → V) (pr : Key → Bool) (hl : kvs.length < sizeLine) (hw2 : ∀ v, wipe ((wipe σ vs).set j (some v)) vs = wipe σ vs)
    (ht : ∀ k v, (k, v) ∈ kvs → ∀ (od : Obj) (H' : Hp) (R : Bool → Hp → Prop), (∀ a o, H a = some o → a ≠ d → H' a = some o) → H' d = some (.frz od (.dK kvs)) → R (pr k) H' → tt ((wipe σ vs).set j (some (kV k))) H' R)
    (he : ∀ k v, (k, v) ∈ kvs → ∀ (od : Obj) (H' : Hp) (R : VK), (∀ a o, H a = some o → a ≠ d → H' a = some o) → H' d = some (.frz od (.dK kvs)) → R (f k) H' → te ((wipe σ vs).set j (some (kV k))) H' R)
    (hd : ∀ Dn H', H Dn = none → Keep [] H H' → H' Dn = some (.lst ((kvs.filter fun kv => pr kv.1).map fun kv => f kv.1)) → Q (.ref Dn) H') : tLockE (tLc (iKeys (tVar n)) (gName j) tt te vs) σ H Q := by
  refine ⟨d, .dK kvs, hk, trivial, fun od => ⟨.ref d, hv, d, od, rfl, Or.inl ⟨kvs, upd_same, fun Dn hDn => ?_⟩⟩⟩
  have ne : Dn ≠ d := fun e => by rw [e, upd_same] at hDn; cases hDn
  have hD : H Dn = none := by rw [upd_ne ne] at hDn; exact hDn
  have inv : ∀ (l : List V), ∀ a o, H a = some o → a ≠ d → (upd (upd H d (.frz od (.dK kvs))) Dn (.lst l)) a = some o := fun l a o e n => by
    rw [upd_ne (ne_of_none e hD), upd_ne n]; exact e
  have invd : ∀ (l : List V), (upd (upd H d (.frz od (.dK kvs))) Dn (.lst l)) d = some (.frz od (.dK kvs)) := fun l => by
    rw [upd_ne ne.symm, upd_same]
  refine ⟨fun i m H' => m = kvs.length - i ∧ i ≤ kvs.length ∧ H' = upd (upd H d (.frz od (.dK kvs))) Dn (.lst (((kvs.take i).filter fun kv => pr kv.1).map fun kv => f kv.1)), ⟨kvs.length, by simp, Nat.zero_le _, rfl⟩, ?_⟩
  rintro i m H' ⟨rfl, hi, rfl⟩
  by_cases hlt : i < kvs.length
  · refine .inr ⟨⟨invd _, hlt⟩, fun H' => H' = upd (upd H d (.frz od (.dK kvs))) Dn (.lst (((kvs.take (i + 1)).filter fun kv => pr kv.1).map fun kv => f kv.1)), fun H' e => ⟨kvs.length - (i + 1), by omega, rfl, hlt, e⟩, fun x H2 y => ?_⟩
    obtain ⟨e, k, v, ek, ex⟩ := y
    subst e ex
    obtain ⟨h, e⟩ := List.getElem?_eq_some_iff.mp ek
    have mem : (k, v) ∈ kvs := e ▸ List.getElem_mem h
    have e2 : kvs.take (i + 1) = kvs.take i ++ [(k, v)] := by rw [List.take_succ_eq_append_getElem h, e]
    refine ⟨hw2 _, ht k v mem od _ _ (inv _) (invd _) ?_⟩
    rw [e2, List.filter_append, List.map_append]
    cases q : pr k with
    | false =>
      rw [if_neg Bool.false_ne_true]
      simp [q]
    | true =>
      rw [if_pos rfl]
      refine he k v mem od _ _ (inv _) (invd _) ⟨_, upd_same, ?_, ?_⟩
      · rw [List.length_map]
        have h1 := List.length_filter_le (fun kv : Key × V => pr kv.1) (kvs.take i)
        have h2 : (kvs.take i).length ≤ kvs.length := by rw [List.length_take]; omega
        omega
      · rw [upd_upd]; simp [q]
  · have e : i = kvs.length := by omega
    subst e
    refine .inl ⟨⟨invd _, Nat.le_refl _⟩, invd _, ?_⟩
    rw [List.take_length]
    refine hd Dn _ hD (fun a o e _ => ?_) ?_
    · by_cases c : a = d
      · subst c; rw [upd_same]; rw [hk] at e; exact e
      · rw [upd_ne c]; exact inv _ a o e c
    · rw [upd_ne ne, upd_same]
end
/-! ### isinstance -/
theorem kit_int_int : kitB "int" "int" = some true := by decide +kernel
theorem kit_int_bool : kitB "int" "bool" = some false := by decide +kernel
theorem kit_int_str : kitB "int" "str" = some false := by decide +kernel
theorem kit_int_list : kitB "int" "list" = some false := by decide +kernel
theorem kit_int_tuple : kitB "int" "tuple" = some false := by decide +kernel
theorem kit_int_dict : kitB "int" "dict" = some false := by decide +kernel
theorem kit_bool_int : kitB "bool" "int" = some true := by decide +kernel
theorem kit_bool_bool : kitB "bool" "bool" = some true := by decide +kernel
theorem kit_bool_str : kitB "bool" "str" = some false := by decide +kernel
theorem kit_bool_list : kitB "bool" "list" = some false := by decide +kernel
theorem kit_bool_tuple : kitB "bool" "tuple" = some false := by decide +kernel
theorem kit_bool_dict : kitB "bool" "dict" = some false := by decide +kernel
theorem kit_str_int : kitB "str" "int" = some false := by decide +kernel
theorem kit_str_bool : kitB "str" "bool" = some false := by decide +kernel
theorem kit_str_str : kitB "str" "str" = some true := by decide +kernel
theorem kit_str_list : kitB "str" "list" = some false := by decide +kernel
theorem kit_str_tuple : kitB "str" "tuple" = some false := by decide +kernel
theorem kit_str_dict : kitB "str" "dict" = some false := by decide +kernel
theorem kit_NoneType_int : kitB "NoneType" "int" = some false := by decide +kernel
theorem kit_NoneType_bool : kitB "NoneType" "bool" = some false := by decide +kernel
theorem kit_NoneType_str : kitB "NoneType" "str" = some false := by decide +kernel
theorem kit_NoneType_list : kitB "NoneType" "list" = some false := by decide +kernel
theorem kit_NoneType_tuple : kitB "NoneType" "tuple" = some false := by decide +kernel
theorem kit_NoneType_dict : kitB "NoneType" "dict" = some false := by decide +kernel
theorem kit_list_int : kitB "list" "int" = some false := by decide +kernel
theorem kit_list_bool : kitB "list" "bool" = some false := by decide +kernel
theorem kit_list_str : kitB "list" "str" = some false := by decide +kernel
theorem kit_list_list : kitB "list" "list" = some true := by decide +kernel
theorem kit_list_tuple : kitB "list" "tuple" = some false := by decide +kernel
theorem kit_list_dict : kitB "list" "dict" = some false := by decide +kernel
theorem kit_tuple_int : kitB "tuple" "int" = some false := by decide +kernel
theorem kit_tuple_bool : kitB "tuple" "bool" = some false := by decide +kernel
theorem kit_tuple_str : kitB "tuple" "str" = some false := by decide +kernel
theorem kit_tuple_list : kitB "tuple" "list" = some false := by decide +kernel
theorem kit_tuple_tuple : kitB "tuple" "tuple" = some true := by decide +kernel
theorem kit_tuple_dict : kitB "tuple" "dict" = some false := by decide +kernel
theorem kit_dict_int : kitB "dict" "int" = some false := by decide +kernel
theorem kit_dict_bool : kitB "dict" "bool" = some false := by decide +kernel
theorem kit_dict_str : kitB "dict" "str" = some false := by decide +kernel
theorem kit_dict_list : kitB "dict" "list" = some false := by decide +kernel
theorem kit_dict_tuple : kitB "dict" "tuple" = some false := by decide +kernel
theorem kit_dict_dict : kitB "dict" "dict" = some true := by decide +kernel
theorem go_isi {K : PySem.W.Frag} {H : Hp} {x : V} {t n : String} {b : Bool} {Q : VK} (ht : TyX K H x (.type t)) (hk : kitB t n = some b) (q : Q (.bl b) H) : rIsi K [x, .ty n] H Q := ⟨x, .ty n, .type t, .type n, b, rfl, .ty n, ht, kit_ty hk, q⟩
/-! ### one proof of what follows -/
theorem for_rest {J : It} {g : TG} {tb : TS} {D : Ends} {σ : L2.St} {H : Hp} (Mid : L2.St → Hp → Prop) (r : ∀ σ H, Mid σ H → D.nx σ H) (h : (∀ σ H, Mid σ H → D.nx σ H) → ForQ J g tb D σ H) : ForQ J g tb D σ H := h r
theorem seq_rest {t u : TS} {D : Ends} {σ : L2.St} {H : Hp} (Mid : L2.St → Hp → Prop) (r : ∀ σ H, Mid σ H → u D σ H) (h : (∀ σ H, Mid σ H → u D σ H) → t { D with nx := u D } σ H) : tSeq t u D σ H := h r
/-! ### a dict of ints as a set -/
def dB (l : List Int) : List (Key × V) := l.map fun x => (Sum.inl x, V.bl true)
def ins (l : List Int) (x : Int) : List Int := if x ∈ l then l else l ++ [x]
theorem mem_ins {l : List Int} {x y : Int} : y ∈ ins l x ↔ y ∈ l ∨ y = x := by
  unfold ins
  split
  · constructor
    · exact Or.inl
    · rintro (h | rfl)
      · exact h
      · assumption
  · simp
theorem ins_len (l : List Int) (x : Int) : (ins l x).length ≤ l.length + 1 := by unfold ins; split <;> simp
theorem nodup_ins {l : List Int} {x : Int} (h : l.Nodup) : (ins l x).Nodup := by
  unfold ins
  split
  · exact h
  · rename_i n
    rw [List.nodup_append]
    refine ⟨h, by simp, fun a ha b hb e => ?_⟩
    simp only [List.mem_singleton] at hb
    subst hb; subst e; exact n ha
theorem valV_dB (l : List Int) (x : Int) : valV (dB l) (Sum.inl x) = if x ∈ l then some (V.bl true) else none := by
  induction l with
  | nil => rfl
  | cons a l ih =>
    show valV ((Sum.inl a, V.bl true) :: dB l) (Sum.inl x) = _
    by_cases e : a = x
    · rw [valV_pos (by rw [e])]; simp [e]
    · rw [valV_neg (fun z => e (Sum.inl.inj z)), ih]
      have e' : ¬ x = a := fun z => e z.symm
      simp [e']
theorem someB {p : Prop} [Decidable p] {v : V} : (if p then some v else none : Option V).isSome = decide p := by by_cases h : p <;> simp [h]
theorem putK_dB (l : List Int) (x : Int) : putK (dB l) (Sum.inl x) (V.bl true) = dB (ins l x) := by
  have h : ((dB l).any fun kv => decide (kv.1 = Sum.inl x)) = decide (x ∈ l) := by
    unfold dB
    rw [List.any_map]
    induction l with
    | nil => simp
    | cons a l ih =>
      rw [List.any_cons, ih]
      by_cases e : a = x
      · simp [e]
      · have e' : ¬ x = a := fun z => e z.symm
        simp [e, e']
  unfold putK ins
  rw [h]
  by_cases m : x ∈ l
  · simp only [m, decide_true, if_true]
    unfold dB
    rw [List.map_map]
    apply List.map_congr_left
    intro p _
    by_cases e : p = x <;> simp [e]
  · simp only [m, decide_false, Bool.false_eq_true, if_false]
    unfold dB
    rw [List.map_append]; rfl
theorem dB_len (l : List Int) : (dB l).length = l.length := by unfold dB; rw [List.length_map]
theorem go_dget1 {σ : L2.St} {H : Hp} {Q : VK} {td ty : TE} (h : td σ H fun x H1 => ∃ a, x = .ref a ∧ IsD H1 a ∧ ty σ H1 fun y H2 => ∃ o, DGet H2 a y o ∧ Q (o.getD .non) H2) : tDGet1 td ty σ H Q := h
theorem go_dget2 {σ : L2.St} {H : Hp} {Q : VK} {td ty tx : TE} (h : td σ H fun x H1 => ∃ a, x = .ref a ∧ IsD H1 a ∧ ty σ H1 fun y H2 => tx σ H2 fun z H3 => ∃ o, DGet H3 a y o ∧ Q (o.getD z) H3) : tDGet2 td ty tx σ H Q := h
theorem isDK {H : Hp} {a : Addr} {kvs : List (Key × V)} (h : Rd H a (.dK kvs)) : IsD H a := Or.inl ⟨kvs, h⟩
end Rf
namespace Rf
open PySem PySem.Spec PyProof.Rows L2
/-! ### a def whose code object is known -/
theorem okC {P : Program} {w : World} {K : PySem.W.Frag} {mg : Str → Option Value} {base : Heap} {nm qual : Str} {st : Stmt} {f : Addr} {fd : FuncData} {N ps : List Str} {k : Nat} {sp : Sp}
    (F : Fun K nm qual st f fd) (S : FnScope N ps (defScope st)) (hl : ∀ vs H Q E, sp vs H Q E → vs.length = ps.length)
    (hb : ∀ (cdv : Value) (A : Around) (outer : List Env) (s : Shared) (H : Hp) (vs : List V) (Q : VK) (E : XK), PySem.W.kdsCode K cdv = true → Room k (A.deeper (envOfC qual (defScope st) s.heap.objs.size f cdv)) → sp vs H Q E →
      ∃ t, PSs (cxOf CX0 P w K mg base N qual (defScope st) f cdv A outer s H E).nox (defBody st) t ∧
        t { nx := fun _ H' => Q .non H', rt := Q } (start N vs) H) :
    FnOk P w K mg base CX0 (k + 1) f fd ps sp := by
  obtain ⟨_, _, _, _, _, _, cd, _, _, e, lk, hc⟩ := F.ex
  subst e
  refine fn_of lk hc S hl fun A outer s H vs Q E hr h => ?_
  obtain ⟨t, z, q⟩ := hb cd A outer s H vs Q E (kdsCode_of hc) hr h
  exact ⟨t, z.nox, q⟩
/-! ### sets of ints made at once -/
section
variable {X : Cx}
theorem setI_add {A : Around} {E : Value → Shared → Prop} {pins : List (Addr × Obj)} {σ : L2.St} {H : Hp} {s : Shared} {D : Addr} {S : Int → Bool} {n : Nat} {y : Int} {t : Tok} {Q : Bool → Shared → Prop} (I : Inv X pins σ H s)
    (hD : H D = some (SetO X.w D S n)) (room : n + 1 < scanBound)
    (h : ∀ b s', Inv X pins σ (upd H D (SetO X.w D (fun j => S j || decide (j = y)) (if S y = true then n else n + 1))) s' → Q b s') :
    wpAny (model X.prog X.w) A (setAdd D (.int y t)) Q E s := by
  unfold setAdd
  refine wpAny_holding (wpAny_bind ((intKind X.prog X.w).pyHash (k := y) (intKind_is _ _ _ _) ?_))
  have R : SetR X.w s.heap D S n := setO_get I hD
  refine setR_add_hashed (s := { s with toks := s.toks + 1 }) R room fun h' sb new => ?_
  refine h _ _ (I.write (e := D) (t' := s.toks + 1) (by rw [hD]; trivial) (.inl rfl) (fun b u hb hu => (sb.2 b hb).trans hu) ?_ (setO_new new))
  have ⟨o, _, _, _, ho, _⟩ := new
  exact ⟨o, ho⟩
/-- {a, b} of two ints -/
def tSetI2 (w : World) (ta tb : TE) : TE := fun σ H Q => ∀ p, H p = none → ta σ (upd H p (SetO w p (fun _ => false) 0)) fun x H1 => tb σ H1 fun y H2 =>
  H2 p = some (SetO w p (fun _ => false) 0) ∧ ∃ i j : Int, x = .int i ∧ y = .int j ∧ ∀ (S : Int → Bool) (n : Nat), n ≤ 2 → (∀ k, S k = true ↔ k = i ∨ k = j) → Q (.ref p) (upd H2 p (SetO w p S n))
theorem pe_setI2 {a b : Expr} {ta tb : TE} {pos : Pos} (ha : PE X a ta) (hb : PE X b tb) (hcd : PySem.W.kdsCode X.K X.env.code = true)
    (hs : starEach [a, b] X.env = [(false, eval a X.env), (false, eval b X.env)] := by rfl) : PE X (.Set [a, b] 0 pos) (tSetI2 X.w ta tb) := by
  refine ⟨fun pins s σ H Q I h => ?_⟩
  rw [arm_eval_Set, hs]
  refine wpAny_bind (wpAny_standAt ?_)
  refine wpAny_bind (PySem.W.kds_main I.kIn hcd fun c => ?_)
  have hr : displayRoad 0 [a, b] = .oneByOne := rfl
  rw [hr]
  unfold setDisplay
  rw [if_neg (by decide)]
  refine wpAny_bind (PpSet.newSet_ok ?_)
  dsimp only
  refine wpAny_bind (wpAny_holding ?_)
  have hn := I.hok.fresh (Nat.le_refl s.heap.objs.size)
  have I1 := I.laid (a := s.heap.objs.size) (o := SetO X.w s.heap.objs.size (fun _ => false) 0) (h' := s.heap.push { cls := .type "set", dict := none, data := .set #[] 0 (.fresh 0 0 (!X.w.params.followText "set-order")) }) (t' := s.toks)
    (fun _ _ e => Heap.get?_push_of_some _ e) (Nat.le_refl _) (setO_new (setR_fresh X.w))
  have q := h _ hn
  have e2 : ∀ (x y : Sem Value), (if [(false, x), (false, y)].length > 30 then 0 else (([(false, x), (false, y)] : List (Bool × Sem Value)).findIdx? (·.1)).getD [(false, x), (false, y)].length) = 2 := fun _ _ => rfl
  simp only [List.map_cons, List.map_nil]
  rw [e2]
  simp only [List.take_succ_cons, List.take_zero, List.drop_succ_cons, List.drop_zero, List.map_cons, List.map_nil, evalAll]
  refine wpAny_bind (wpAny_bind (wpAny_bind (thn (ha.run pins _ σ _ _ I1 q) fun v s2 ⟨x, H1, I2, r1, q1⟩ => wpAny_bind (wpAny_standAt (wpAny_pure ?_)))))
  refine wpAny_bind (wpAny_holding (wpAny_bind (wpAny_bind (thn (hb.run pins _ σ _ _ I2 q1) fun u s3 ⟨y, H2, I3, r2, eD, i, j, ex, ey, q2⟩ => wpAny_bind (wpAny_standAt (wpAny_pure ?_))))))
  refine wpAny_bind (wpAny_holding (wpAny_pure ?_))
  refine wpAny_pure (wpAny_pure ?_)
  subst ex ey
  obtain ⟨t1, e1⟩ := r1
  obtain ⟨t2, e2⟩ := r2
  subst e1 e2
  refine wpAny_bind (wpAny_holding ?_)
  refine wpAny_bind ?_
  rw [List.forIn_cons]
  refine wpAny_bind (wpAny_bind (setI_add I3 eD (by decide) fun _ s4 I4 => wpAny_pure ?_))
  dsimp only
  rw [List.forIn_cons]
  refine wpAny_bind (wpAny_bind (setI_add I4 upd_same (by simp [scanBound]) fun _ s5 I5 => wpAny_pure ?_))
  dsimp only
  rw [List.forIn_nil]
  refine wpAny_pure ?_
  rw [if_neg (by decide)]
  refine wpAny_pure ?_
  rw [List.forIn_nil]
  refine wpAny_pure (wpAny_pure ?_)
  refine ⟨.ref s.heap.objs.size, _, I5, rfl, ?_⟩
  rw [upd_upd]
  refine q2 _ _ ?_ (fun k => ?_)
  · split <;> simp
  · simp
end
/-! ### dicts of the module -/
def WDict (K : PySem.W.Frag) (w : World) (d : Addr) : Prop := ∃ es n, KDict K w d es n
/-- what stands at a key -/
def WAt (K : PySem.W.Frag) (d : Addr) (z : Str) (o : Option V) : Prop := ∃ r, PySem.W.nsIn K d z = some r ∧ (o = none → r = none) ∧ ∀ v, o = some v → ∃ u, r = some u ∧ RelV v u
def rInW (K : PySem.W.Frag) (w : World) : R2 := fun x y H Q => ∃ (d : Addr) (z : Str) (o : Option V), x = .str z ∧ y = .ref d ∧ WDict K w d ∧ WAt K d z o ∧ Q (.bl o.isSome) H
def rNinW (K : PySem.W.Frag) (w : World) : R2 := fun x y H Q => ∃ (d : Addr) (z : Str) (o : Option V), x = .str z ∧ y = .ref d ∧ WDict K w d ∧ WAt K d z o ∧ Q (.bl (!o.isSome)) H
def rIxW (K : PySem.W.Frag) (w : World) : R2 := fun x y H Q => ∃ (d : Addr) (z : Str) (v : V), x = .ref d ∧ y = .str z ∧ WDict K w d ∧ WAt K d z (some v) ∧ Q v H
def tGetW (K : PySem.W.Frag) (w : World) (td ty : TE) : TE := fun σ H Q => td σ H fun x H1 => ∃ d, x = .ref d ∧ WDict K w d ∧ ty σ H1 fun y H2 => ∃ (z : Str) (o : Option V), y = .str z ∧ WAt K d z o ∧ Q (o.getD .non) H2
section
variable {X : Cx}
theorem WAt.sm {K : PySem.W.Frag} {d : Addr} {z : Str} {o : Option V} {r : Option Value} (h1 : o = none → r = none) (h2 : ∀ v, o = some v → ∃ u, r = some u ∧ RelV v u) : r.isSome = o.isSome := by
  cases o with
  | none => rw [h1 rfl]; rfl
  | some v =>
    obtain ⟨u, e, _⟩ := h2 v rfl
    rw [e]; rfl
theorem op_inW : OpR X (compareOp .In) (rInW X.K X.w) := by
  intro pins s σ H x y v u Q I rx ry h
  obtain ⟨d, z, o, ex, ey, ⟨es, n, D⟩, ⟨r, e, h1, h2⟩, q⟩ := h
  exact op_in_kd D pins s σ H x y v u Q I rx ry ⟨z, r, ex, ey, e, by rw [WAt.sm (K := X.K) (d := d) (z := z) h1 h2]; exact q⟩
theorem op_ninW : OpR X (compareOp .NotIn) (rNinW X.K X.w) := by
  intro pins s σ H x y v u Q I rx ry h
  obtain ⟨d, z, o, ex, ey, ⟨es, n, D⟩, ⟨r, e, h1, h2⟩, q⟩ := h
  exact op_notIn_kd D pins s σ H x y v u Q I rx ry ⟨z, r, ex, ey, e, by rw [WAt.sm (K := X.K) (d := d) (z := z) h1 h2]; exact q⟩
theorem ix_W : IxR X (rIxW X.K X.w) := by
  intro value slice pins s σ H x y v u Q I rx ry h hs
  obtain ⟨d, z, v0, ex, ey, ⟨es, n, D⟩, ⟨r, e, _, h2⟩, q⟩ := h
  obtain ⟨u0, er, ru⟩ := h2 v0 rfl
  subst er
  exact ix_kdict value slice pins s σ H x y v u Q I rx ry ⟨d, z, v0, ex, ey, ⟨es, n, u0, D.at_, D.lit, e, ru⟩, q⟩ hs
theorem pe_getW {o e : Expr} {apos cpos : Pos} {td ty : TE} (ho : PE X o td) (he : PE X e ty) (m : M1 X o "get" apos e cpos) : PE X (.Call (.Attribute o "get" apos) [e] [] cpos) (tGetW X.K X.w td ty) := by
  constructor
  intro pins s σ H Q I h
  refine wpAny_Call_method m.base m.few m.line PySem.F.plainAttrs_dict PySem.F.slot_dict_get PySem.F.type_dict_get (thn (ho.run pins s σ H _ I h) fun u s1 z => ?_)
  obtain ⟨x, H1, I1, rx, d, ex, ⟨es, n, D⟩, q1⟩ := z
  subst ex
  obtain rfl : u = Value.ref d := rx
  have hm := PySem.W.mapOf_K (prog := X.prog) (w := X.w) I1.kIn D.at_ D.lit
  refine ⟨hm.typeIs, fun b z => ?_, ?_⟩
  · cases z
    exact ⟨_, I1.kIn _ _ D.at_, rfl⟩
  rw [m.trees]
  refine wpAny_dict_get1 (knd := strKind X.prog X.w) D.low (thn (he.run pins s1 σ H1 _ I1 q1) fun iv s2 z => ?_)
  obtain ⟨y, H2, I2, ry, zz, o, ey, ⟨r, e, h1, h2⟩, q2⟩ := z
  subst ey
  obtain ⟨t, rfl⟩ := ry
  refine ⟨zz, _, strKind_is X.prog X.w zz t, PySem.W.mapOf_K (prog := X.prog) (w := X.w) I2.kIn D.at_ D.lit, ?_⟩
  rw [PySem.W.find_K D.at_ e]
  refine ⟨_, H2, I2.tok _, ?_, q2⟩
  cases o with
  | none => rw [h1 rfl]; rfl
  | some v =>
    obtain ⟨u, eu, ru⟩ := h2 v rfl
    rw [eu]; exact ru
end
end Rf
namespace Rf
open PySem PySem.Spec PyProof.Rows L2
theorem ext_tup (l : Addr) (us : Array Value) (n : Nat) (b : Addr) (ws : Array Value) (m : Nat) (dd : Option Addr) (sl : Array (Option Value)) (h0 : ¬(!us.isEmpty && Builtin.List.listTooLong (us.size + ws.size)) = true)
    (h1 : us.size ≤ sizeLine) (h2 : us.size + ws.size ≤ sizeLine + 1) :
    Meets (Builtin.«list.extend» ⟨[.ref l, .ref b], []⟩) (fun _ R s => s.heap.get? l = some { cls := .type "list", dict := none, data := .seq us n, slots := #[] } ∧
      s.heap.get? b = some { cls := .type "tuple", dict := dd, data := .seq ws m, slots := sl } ∧
      R (.ok (.ret Value.none)) { s with heap := s.heap.update l (Obj.mapSeq fun x => x ++ ws), toks := s.toks }) := by
  refine .of_wp fun prog w A R s h => ?_
  obtain ⟨hp, g, d, tk, os⟩ := s
  obtain ⟨hl, hb, h⟩ := h
  have f1 := AutoSeq1.idx_int
  have f2 := AutoSeq1.sub_tuple_tuple
  have f3 := AutoSeq1.sub_list_list
  have f4 := AutoSeq1.sub_tuple_list
  have f5 := AutoSeq1.sub_list_tuple
  have hz' : (us ++ ws).size ≤ sizeLine + 1 := by rw [Array.size_append]; exact h2
  wp_walk using (wpAny_updateSeq hl rfl (hz := h1) (_hz' := hz')), AutoSeq1.wpAny_loadPart' hl, AutoSeq1.wpAny_loadPart' hb
  exact ⟨_, rfl, h⟩
def rExtT (K : PySem.W.Frag) : V → List V → Hp → VK → Prop := fun x vs H Q => ∃ l b xs zs, x = .ref l ∧ vs = [.ref b] ∧ H l = some (.lst xs) ∧ SqT K H b zs ∧ xs.length + zs.length ≤ sizeLine ∧ Q .non (upd H l (.lst (xs ++ zs)))
section
variable {X : Cx}
theorem mt_extT : MtM X "list.extend" (rExtT X.K) := by
  intro pins s σ H x vs v us Q I rx rv h
  obtain ⟨l, b, xs, zs, ex, ev, hH, hB, hz, q⟩ := h
  subst ex ev
  cases rx
  obtain ⟨u, eu, ru⟩ := rv.one
  subst eu
  cases ru
  obtain ⟨z, its, n, r, hl, e⟩ := I.lstM hH
  obtain ⟨its2, r2, hT, hz2⟩ := I.tuple hB
  obtain ⟨⟨cl, dd, dat, sl⟩, e2, c2, n2, d2⟩ := hT
  dsimp only at c2 d2
  subst c2 d2
  have hl2 := r2.length
  have hsz : its.toArray.size + its2.toArray.size ≤ sizeLine := by simp only [List.size_toArray]; omega
  have hlong : ¬ (!its.toArray.isEmpty && Builtin.List.listTooLong (its.toArray.size + its2.toArray.size)) = true := by
    rw [notLongL hsz]; simp
  refine call_meets F.slot_list_extend ⟨_, e, rfl⟩ F.entry_list_extend (F.args_list_extend_2 _ _)
    (ext_tup l its.toArray n b its2.toArray n2 dd sl hlong (by simp only [List.size_toArray]; omega) (by omega)) ⟨e, e2, ?_⟩
  refine ⟨.non, _, I.lset (its' := its ++ its2) hH e (by simp) (r.append r2) (by rw [List.length_append]; omega), rfl, q⟩
/-- a text n times over -/
def repS (x : Str) (n : Nat) : Str := ⟨(List.replicate n x.cps).foldl (· ++ ·) #[]⟩
def rMulS : R2 := fun x y H Q => ∃ (a : Str) (k : Int), x = .str a ∧ y = .int k ∧ 2 ≤ k ∧ k ≤ 1000 ∧ 1 ≤ a.length ∧ a.length ≤ 1000 ∧ Q (.str (repS a k.toNat)) H
theorem op_mulS : OpR X (binaryOp .Mult) rMulS := by
  intro pins s σ H x y v u Q I rx ry h
  obtain ⟨a, k, ex, ey, h1, h2, h3, h4, q⟩ := h
  subst ex ey
  obtain ⟨t, rfl⟩ := rx
  obtain ⟨t', rfl⟩ := ry
  refine P.mul_str ?_ (fun _ _ => ?_) (fun _ _ => ?_) ?_
  · rw [decide_eq_false (by omega), decide_eq_false (by omega)]; rfl
  · have : (2 ^ 63 - 1) / k ≥ 1000 := by
      have h0 : (0 : Int) < k := by omega
      rw [ge_iff_le, Int.le_ediv_iff_mul_le h0]; omega
    omega
  · have : a.length * k.toNat ≤ 1000 * 1000 := Nat.mul_le_mul h4 (by omega)
    unfold Builtin.Str.tooLong; exact decide_eq_false (by unfold sizeLine; omega)
  · rw [if_neg (by omega)]
    have e1 : (k == 1 || a.length == 0) = false := by
      rw [Bool.or_eq_false_iff]; exact ⟨by simp; omega, by simp; omega⟩
    rw [if_neg (by rw [e1]; exact Bool.false_ne_true)]
    refine ⟨?_, .str _, H, I.tok _, ⟨_, rfl⟩, q⟩
    have e2 : ∀ (c : Array Nat) (m : Nat) (acc : Array Nat), ((List.replicate m c).foldl (· ++ ·) acc).size = acc.size + m * c.size := by
      intro c m
      induction m with
      | zero => intro acc; simp
      | succ m ih => intro acc; rw [List.replicate_succ, List.foldl_cons, ih, Array.size_append, Nat.succ_mul]; omega
    show ((List.replicate k.toNat a.cps).foldl (· ++ ·) #[]).size ≤ sizeLine
    rw [e2]
    have : k.toNat * a.cps.size ≤ 1000 * 1000 := Nat.mul_le_mul (by omega) h4
    simp only [Array.size_empty, sizeLine]; omega
end
/-! ### names of readings -/
abbrev rOrI : R2 := rI0 fun i j => .int (Builtin.bitOr i j)
abbrev rAndI : R2 := rI0 fun i j => .int (Builtin.bitAnd i j)
abbrev rShlI : R2 := rI CPow fun i j => .int (i * 2 ^ j.toNat)
abbrev rShrI : R2 := rI (fun _ j => 0 ≤ j) fun i j => .int (i / 2 ^ j.toNat)
def rTupOf (K : PySem.W.Frag) : List V → Hp → VK → Prop := fun xs H Q => ∃ p ys, xs = [.ref p] ∧ ((SqL K H p ys ∧ ∀ l, H l = none → Q (.ref l) (upd H l (.tup ys))) ∨ (SqT K H p ys ∧ Q (.ref p) H))
def rIxQ (K : PySem.W.Frag) : R2 := fun x y H Q => rIxL K x y H Q ∨ rIxT K x y H Q
theorem wat_none {K : PySem.W.Frag} {d : Addr} {z : Str} (e : PySem.W.nsIn K d z = some none) : WAt K d z none := ⟨none, e, fun _ => rfl, fun v h => by cases h⟩
theorem wat_int {K : PySem.W.Frag} {d : Addr} {z : Str} {i : Int} {t : Tok} (e : PySem.W.nsIn K d z = some (some (.int i t))) : WAt K d z (some (.int i)) :=
  ⟨_, e, (fun h => by cases h), fun v h => by cases h; exact ⟨_, rfl, t, rfl⟩⟩
theorem wat_ref {K : PySem.W.Frag} {d a : Addr} {z : Str} (e : PySem.W.nsIn K d z = some (some (.ref a))) : WAt K d z (some (.ref a)) :=
  ⟨_, e, (fun h => by cases h), fun v h => by cases h; exact ⟨_, rfl, rfl⟩⟩
theorem sqt_of {K : PySem.W.Frag} {t : Addr} {od : Option Addr} {its : Array Value} {n : Nat} {sl : Array (Option Value)} {xs : List V} (e : K.lookup t = some ⟨.type "tuple", od, .seq its n, sl⟩) (h : its.size ≤ sizeLine) (v : Vals xs its.toList) : ∀ H, SqT K H t xs :=
  fun _ => Or.inr ⟨_, its, n, e, rfl, rfl, h, v⟩
end Rf
namespace Rf
open PySem PySem.Spec PyProof.Rows L2
/-! ### lists of references -/
theorem refs_split {α : Type} {F : Addr → α → Prop} {as : List Addr} {ms : List α} (h : Paired F as ms) {pre post : List V} {x : V} (e : as.map V.ref = pre ++ x :: post) :
    ∃ a m, x = .ref a ∧ F a m ∧ m ∈ ms ∧ a ∈ as ∧ ms[pre.length]? = some m ∧ ms.take (pre ++ [x]).length = ms.take pre.length ++ [m] ∧ pre.length < ms.length := by
  have hi : pre.length < as.length := by
    have := congrArg List.length e
    rw [List.length_map, List.length_append, List.length_cons] at this
    omega
  have ha : as[pre.length]? = some as[pre.length] := List.getElem?_eq_getElem hi
  obtain ⟨m, hm, hF⟩ := Rf.Paired.get h ha
  have ex : (as.map V.ref)[pre.length]? = some x := by rw [e]; simp
  rw [List.getElem?_map, ha] at ex
  have ex : V.ref as[pre.length] = x := Option.some.inj ex
  obtain ⟨hl, hm'⟩ := List.getElem?_eq_some_iff.mp hm
  refine ⟨as[pre.length], m, ex.symm, hF, List.mem_of_getElem? hm, List.getElem_mem hi, hm, ?_, hl⟩
  rw [List.length_append, List.length_singleton, List.take_succ_eq_append_getElem hl, hm']
theorem go_refs {K : PySem.W.Frag} {D : Ends} {σ : L2.St} {H : Hp} {g : TG} {tb : TS} {a : Addr} {α : Type} {F : Addr → α → Prop} {as : List Addr} {ms : List α} (hp : Paired F as ms) (hS : SqL K H a (as.map V.ref)) (Pv : List α → L2.St → Hp → Prop) (h0 : Pv [] σ H) (hl : ∀ pre σ' H', Pv pre σ' H' → SqL K H' a (as.map V.ref))
    (hs : ∀ pre m b σ' H', m ∈ ms → F b m → pre.length < ms.length → Pv pre σ' H' → g (.ref b) σ' H' fun σ2 H2 => tb { D with nx := Pv (pre ++ [m]), ct := Pv (pre ++ [m]), bk := D.nx } σ2 H2)
    (hd : ∀ σ' H', Pv ms σ' H' → D.nx σ' H') : ∃ a', V.ref a = .ref a' ∧ (∃ xs, SqL K H a' xs) ∧ ForQ (Itl K a') g tb D σ H := by
  refine go_forL hS (fun pre σ' H' => Pv (ms.take pre.length) σ' H') h0 (fun pre σ' H' p => hl _ _ _ p) (fun pre x post σ' H' e p => ?_) (fun σ' H' p => hd σ' H' ?_)
  · obtain ⟨b, m, rfl, hF, hm, hb, h1, h2, h3⟩ := refs_split hp e
    have := hs (ms.take pre.length) m b σ' H' hm hF (by rw [List.length_take]; omega) p
    rw [h2]
    exact this
  · rw [List.length_map, Paired.length hp, List.take_length] at p
    exact p
theorem gm_name {j : Nat} : ∀ x σ H (R R' : L2.St → Hp → Prop), gName j x σ H R → (∀ s h, R s h → R' s h) → gName j x σ H R' := fun _ _ _ _ _ h k => k _ _ h
theorem gm_tup2 {K : PySem.W.Frag} {i j : Nat} : ∀ x σ H (R R' : L2.St → Hp → Prop), gTup K 2 (gCons (gName i) (gCons (gName j) gNil)) x σ H R → (∀ s h, R s h → R' s h) → gTup K 2 (gCons (gName i) (gCons (gName j) gNil)) x σ H R' := by
  rintro x σ H R R' ⟨a, xs, rfl, h1, h2, v, r, rfl, v2, r2, rfl, h3, h4⟩ k
  exact ⟨a, _, rfl, h1, h2, v, _, rfl, v2, _, rfl, h3, k _ _ h4⟩
theorem go_lcRefs {K : PySem.W.Frag} {σ : L2.St} {H : Hp} {Q : VK} {g : TG} {te : TE} {vs : List Nat} {a : Addr} {α : Type} {F : Addr → α → Prop} {as : List Addr} {ms : List α} (hp : Paired F as ms) (hS : SqL K H a (as.map V.ref)) (f : α → V) (hl : ms.length < sizeLine)
    (he : ∀ b m, m ∈ ms → F b m → ∀ (H' : Hp) (R : VK), Keep [] H H' → R (f m) H' → g (.ref b) (wipe σ vs) H' fun σ2 H2 => wipe σ2 vs = wipe σ vs ∧ te σ2 H2 R)
    (gm : ∀ x σ H (R R' : L2.St → Hp → Prop), g x σ H R → (∀ s h, R s h → R' s h) → g x σ H R')
    (hd : ∀ Dn, H Dn = none → Q (.ref Dn) (upd H Dn (.lst (ms.map f)))) : ∃ a', V.ref a = .ref a' ∧ (∃ xs, SqL K H a' xs) ∧ LcQ (Itl K a') g tYes te vs Q σ H := by
  refine go_lcL hS (fun Dn pre H' => H' = upd H Dn (.lst ((ms.take pre.length).map f)) ∧ H Dn = none) (fun Dn hD => ⟨rfl, hD⟩) (fun Dn pre H' ⟨e, hD⟩ => ?_) (fun Dn pre x post H' hD ex ⟨e, _⟩ => ?_) (fun Dn H' hD ⟨e, _⟩ => ?_)
  · rw [e]; exact (Keep.new (S := []) hD).seq (by simp) hS
  · subst e
    obtain ⟨b, m, rfl, hF, hm, hb, h1, h2, h3⟩ := refs_split hp ex
    refine gm _ _ _ _ _ (he b m hm hF _ (fun y H4 => ∃ acc, H4 Dn = some (.lst acc) ∧ acc.length < sizeLine ∧ upd H4 Dn (.lst (acc ++ [y])) = upd H Dn (.lst ((ms.take (pre ++ [V.ref b]).length).map f)) ∧ H Dn = none) (Keep.new hD) ?_) ?_
    · refine ⟨_, upd_same, ?_, ?_, hD⟩
      · rw [List.length_map, List.length_take]; omega
      · rw [upd_upd, h2, List.map_append]; rfl
    · intro s h ⟨h1, h2⟩
      refine ⟨h1, ?_⟩
      unfold tYes
      dsimp only
      rw [if_pos rfl]
      exact h2
  · subst e
    rw [List.length_map, Paired.length hp, List.take_length]
    exact hd Dn hD

/-! ### comprehensions that only look -/
section
variable {K : PySem.W.Frag} {σ : L2.St} {H : Hp} {Q : VK} {tt : TT} {te : TE} {vs : List Nat} {a : Addr} {xs : List V} {j n : Nat} {lo : Int}
/-- [f i for i in range if pr i]; new objects may come on the way -/
theorem go_lcRF (f : Nat → V) (pr : Nat → Bool) (hl : n < sizeLine) (hw2 : ∀ v, wipe ((wipe σ vs).set j (some v)) vs = wipe σ vs)
    (ht : ∀ i, i < n → ∀ (H' : Hp) (R : Bool → Hp → Prop), Keep [] H H' → (∀ H2, Keep [] H' H2 → R (pr i) H2) → tt ((wipe σ vs).set j (some (.int (lo + (i : Nat))))) H' R)
    (he : ∀ i, i < n → pr i = true → ∀ (H' : Hp) (R : VK), Keep [] H H' → (∀ H2, Keep [] H' H2 → R (f i) H2) → te ((wipe σ vs).set j (some (.int (lo + (i : Nat))))) H' R)
    (hd : ∀ Dn H', H Dn = none → Keep [] H H' → H' Dn = some (.lst (((List.range n).filter pr).map f)) → Q (.ref Dn) H') : LcQ (Itr lo n) (gName j) tt te vs Q σ H := by
  refine go_lcR (fun Dn i H' => Keep [] H H' ∧ H' Dn = some (.lst (((List.range i).filter pr).map f))) (fun Dn hD => ⟨Keep.new hD, upd_same⟩) (fun Dn i H' hD hi p => ?_) (fun Dn H' hD p => hd Dn H' hD p.1 p.2)
  obtain ⟨k, hn⟩ := p
  refine ⟨hw2 _, ht i hi H' _ k fun H2 k2 => ?_⟩
  cases e : pr i with
  | false =>
    rw [if_neg Bool.false_ne_true]
    refine ⟨k.trans k2, ?_⟩
    rw [List.range_succ, List.filter_append]
    simp [e]
    exact k2 _ _ hn (by simp)
  | true =>
    rw [if_pos rfl]
    refine he i hi e H2 _ (k.trans k2) fun H3 k3 => ⟨_, k3 _ _ (k2 _ _ hn (by simp)) (by simp), ?_, ?_, ?_⟩
    · rw [List.length_map]
      have := List.length_filter_le pr (List.range i)
      rw [List.length_range] at this; omega
    · exact ((k.trans k2).trans k3).fresh hD
    · rw [upd_same, List.range_succ, List.filter_append]
      simp [e]
/-- [f x for x in xs if pr x] -/
theorem go_lcLF (hS : SqL K H a xs) (f : V → V) (pr : V → Bool) (hl : xs.length < sizeLine) (hw2 : ∀ v, wipe ((wipe σ vs).set j (some v)) vs = wipe σ vs)
    (ht : ∀ x ∈ xs, ∀ (H' : Hp) (R : Bool → Hp → Prop), Keep [] H H' → (∀ H2, Keep [] H' H2 → R (pr x) H2) → tt ((wipe σ vs).set j (some x)) H' R)
    (he : ∀ x ∈ xs, pr x = true → ∀ (H' : Hp) (R : VK), Keep [] H H' → (∀ H2, Keep [] H' H2 → R (f x) H2) → te ((wipe σ vs).set j (some x)) H' R)
    (hd : ∀ Dn H', H Dn = none → Keep [] H H' → H' Dn = some (.lst ((xs.filter pr).map f)) → Q (.ref Dn) H') : ∃ a', V.ref a = .ref a' ∧ (∃ xs, SqL K H a' xs) ∧ LcQ (Itl K a') (gName j) tt te vs Q σ H := by
  refine go_lcL hS (fun Dn pre H' => Keep [] H H' ∧ H' Dn = some (.lst ((pre.filter pr).map f))) (fun Dn hD => ⟨Keep.new hD, upd_same⟩) (fun Dn pre H' p => p.1.seq (by simp) hS) (fun Dn pre x post H' hD ex p => ?_) (fun Dn H' hD p => hd Dn H' hD p.1 p.2)
  obtain ⟨k, hn⟩ := p
  have hx : x ∈ xs := by rw [ex]; simp
  refine ⟨hw2 _, ht x hx H' _ k fun H2 k2 => ?_⟩
  cases e : pr x with
  | false =>
    rw [if_neg Bool.false_ne_true]
    refine ⟨k.trans k2, ?_⟩
    rw [List.filter_append]
    simp [e]
    exact k2 _ _ hn (by simp)
  | true =>
    rw [if_pos rfl]
    refine he x hx e H2 _ (k.trans k2) fun H3 k3 => ⟨_, k3 _ _ (k2 _ _ hn (by simp)) (by simp), ?_, ?_, ?_⟩
    · rw [List.length_map]
      have h1 := List.length_filter_le pr pre
      have h2 : pre.length < xs.length := by rw [ex, List.length_append, List.length_cons]; omega
      omega
    · exact ((k.trans k2).trans k3).fresh hD
    · rw [upd_same, List.filter_append]
      simp [e]
theorem go_yes {R : Bool → Hp → Prop} (h : R true H) : tYes σ H R := h
end
/-! ### the lesser words -/
section
variable {K : PySem.W.Frag} {w : World} {D : Ends} {σ : L2.St} {H : Hp} {Q : VK} {QT : Bool → Hp → Prop} {x y z v : V} {ta tb tc te to : TE} {tA : TA} {i j k : Int} {a b p C dx d : Addr} {xs ys : List V} {s s' : Str} {f : Str} {fs : List (Str × V)} {ws : List Str} {sp : Sp} {E : XK} {dvs : List V}
theorem go_m1 {r : V → List V → Hp → VK → Prop} (h : ta σ H fun x H1 => (∃ z : Str, x = .str z) ∧ tb σ H1 fun y H2 => r x [y] H2 Q) : tM1 r ta tb σ H Q := h
theorem go_isS {P : Prop} (q : P) : (∃ z : Str, V.str s = .str z) ∧ P := ⟨⟨s, rfl⟩, q⟩
theorem go_chain {r r' : R2} (h : ta σ H fun x H1 => tb σ H1 fun y H2 => r x y H2 fun z H3 => ∃ k, z = .bl k ∧ (if k = true then tc σ H3 fun w' H4 => r' y w' H4 Q else Q (.bl false) H3)) : tChain r r' ta tb tc σ H Q := h
theorem go_join {ts : List Str} (h : SqL K H p (ts.map V.str)) (hz : (ts.map (·.length)).sum + ts.length * s.length ≤ 16777216) (q : Q (.str (Txt.join s ts)) H) : rJoin K (.str s) [.ref p] H Q := ⟨s, p, ts, rfl, rfl, Or.inl h, hz, q⟩
theorem go_ixS {c : Nat} (hl : s.length ≤ sizeLine) (ha : atI s.cps.toList i = some c) (q : Q (.str ⟨#[c]⟩) H) : rIxS (.str s) (.int i) H Q := ⟨s, i, c, rfl, rfl, hl, ha, q⟩
theorem go_pop0 (h : H p = some (.lst (v :: xs))) (q : Q v (upd H p (.lst xs))) : rPopAt (.ref p) [.int 0] H Q :=
  ⟨p, v :: xs, 0, 0, v, rfl, rfl, h, by decide, by decide, by unfold seqIndex?; simp, rfl, q⟩
theorem go_ins0 (h : H p = some (.lst xs)) (hl : xs.length < sizeLine) (q : Q .non (upd H p (.lst (v :: xs)))) : rInsert (.ref p) [.int 0, v] H Q :=
  ⟨p, xs, 0, v, rfl, rfl, h, hl, by decide, by decide, by simpa using q⟩
theorem go_cat (h : H a = some (.lst xs)) (h' : H b = some (.lst ys)) (hl : xs.length + ys.length ≤ sizeLine) (q : ∀ p, H p = none → Q (.ref p) (upd H p (.lst (xs ++ ys)))) : rCat (.ref a) (.ref b) H Q := ⟨a, b, xs, ys, rfl, rfl, h, h', hl, q⟩
theorem go_truL (h : SqL K H p xs) (q : QT (!xs.isEmpty) H) : ∃ k, TruV K (.ref p) H k ∧ QT k H := ⟨_, Or.inl ⟨xs, h, rfl⟩, q⟩
theorem go_truT (h : SqT K H p xs) (q : QT (!xs.isEmpty) H) : ∃ k, TruV K (.ref p) H k ∧ QT k H := ⟨_, Or.inr (Or.inl ⟨xs, h, rfl⟩), q⟩
theorem go_tfld (h : ta σ H fun x H1 => ∃ a C dx fs v, x = .ref a ∧ H1 a = some (.ins C dx fs) ∧ Cls K C ∧ NoAttr K C f ∧ fs.lookup f = some v ∧ Q v H1) : tFld K ta f σ H Q := h
theorem go_fldE (h : H a = some (.ins C dx fs)) (c : Cls K C) (n : NoAttr K C f) (l : fs.lookup f = some v) (q : Q v H) : ∃ a' C' dx' fs' v', V.ref a = .ref a' ∧ H a' = some (.ins C' dx' fs') ∧ Cls K C' ∧ NoAttr K C' f ∧ fs'.lookup f = some v' ∧ Q v' H := ⟨a, C, dx, fs, v, rfl, h, c, n, l, q⟩
theorem go_sfld (h : tb σ H fun y H1 => ta σ H1 fun x H2 => ∃ a C dx fs, x = .ref a ∧ H2 a = some (.ins C dx fs) ∧ Cls K C ∧ NoAttr K C f ∧ fs.length < 1000 ∧ D.nx σ (upd H2 a (.ins C dx (putF f y fs)))) : sFld K ta tb f D σ H := h
theorem go_sfldE {R : Hp → Prop} (h : H a = some (.ins C dx fs)) (c : Cls K C) (n : NoAttr K C f) (l : fs.length < 1000) {gs : List (Str × V)} (e : putF f y fs = gs) (q : R (upd H a (.ins C dx gs))) : ∃ a' C' dx' fs', V.ref a = .ref a' ∧ H a' = some (.ins C' dx' fs') ∧ Cls K C' ∧ NoAttr K C' f ∧ fs'.length < 1000 ∧ R (upd H a' (.ins C' dx' (putF f y fs'))) :=
  ⟨a, C, dx, fs, rfl, h, c, n, l, by rw [e]; exact q⟩
theorem go_make (h : tA σ H fun vs H1 => ∀ x dx, H1 x = none → H1 dx = none → dx ≠ x → sp (.ref x :: (vs ++ dvs)) (upd (upd H1 dx (.own x)) x (.ins C dx [])) (fun v H2 => v = .non ∧ Q (.ref x) H2) E) : tMake C sp dvs E tA σ H Q := h
theorem go_inW {o : Option V} (hd : WDict K w d) (ha : WAt K d s o) (q : Q (.bl o.isSome) H) : rInW K w (.str s) (.ref d) H Q := ⟨d, s, o, rfl, rfl, hd, ha, q⟩
theorem go_ixW (hd : WDict K w d) (ha : WAt K d s (some v)) (q : Q v H) : rIxW K w (.ref d) (.str s) H Q := ⟨d, s, v, rfl, rfl, hd, ha, q⟩
theorem go_getW (h : ta σ H fun x H1 => ∃ d, x = .ref d ∧ WDict K w d ∧ tb σ H1 fun y H2 => ∃ (z : Str) (o : Option V), y = .str z ∧ WAt K d z o ∧ Q (o.getD .non) H2) : tGetW K w ta tb σ H Q := h
theorem inV_strs {ws : List Str} {x : Str} : inV (.str x) (ws.map V.str) = decide (x ∈ ws) := by
  induction ws with
  | nil => rfl
  | cons a l ih =>
    have e : inV (.str x) ((a :: l).map V.str) = ((a == x) || inV (.str x) (l.map V.str)) := rfl
    rw [e, ih]
    by_cases h : a = x
    · subst h; simp
    · have h' : ¬ x = a := fun z => h z.symm
      simp [h, h']
theorem flat_strs' (l : List Str) : (l.map V.str).all flatV = true := by
  induction l with
  | nil => rfl
  | cons a l ih => simp [List.all_cons, flatV, ih]
theorem go_inS (h : SqL K H p (ws.map V.str)) (q : Q (.bl (decide (s ∈ ws))) H) : rIn K false (.str s) (.ref p) H Q := ⟨p, _, rfl, Or.inl h, rfl, flat_strs' ws, by rw [inV_strs]; exact q⟩
theorem go_inST (h : SqT K H p (ws.map V.str)) (q : Q (.bl (decide (s ∈ ws))) H) : rIn K false (.str s) (.ref p) H Q := ⟨p, _, rfl, Or.inr h, rfl, flat_strs' ws, by rw [inV_strs]; exact q⟩
theorem go_ninS (h : SqL K H p (ws.map V.str)) (q : Q (.bl (!decide (s ∈ ws))) H) : rIn K true (.str s) (.ref p) H Q := ⟨p, _, rfl, Or.inl h, rfl, flat_strs' ws, by rw [inV_strs]; exact q⟩
/-- a written list of texts, where the texts are known -/
theorem go_inV {r : Bool} (h : SqL K H p xs) (f0 : xs.all flatV = true) (e : inV (.str s) xs = r) (q : Q (.bl r) H) : rIn K false (.str s) (.ref p) H Q := ⟨p, xs, rfl, Or.inl h, rfl, f0, by rw [e]; exact q⟩
theorem go_inVT {r : Bool} (h : SqT K H p xs) (f0 : xs.all flatV = true) (e : inV (.str s) xs = r) (q : Q (.bl r) H) : rIn K false (.str s) (.ref p) H Q := ⟨p, xs, rfl, Or.inr h, rfl, f0, by rw [e]; exact q⟩
theorem go_all {bs : List Bool} (h : SqL K H p (bs.map V.bl)) (q : Q (.bl (bs.all id)) H) : rAll K [.ref p] H Q := ⟨p, bs, rfl, h, q⟩
theorem go_any {bs : List Bool} (h : SqL K H p (bs.map V.bl)) (q : Q (.bl (bs.any id)) H) : rAny K [.ref p] H Q := ⟨p, bs, rfl, h, q⟩
theorem go_tupL (h : SqL K H p xs) (q : ∀ l, H l = none → Q (.ref l) (upd H l (.tup xs))) : rTupOf K [.ref p] H Q := ⟨p, xs, rfl, Or.inl ⟨h, q⟩⟩
theorem go_extT (h : H p = some (.lst xs)) (h' : SqT K H b ys) (hl : xs.length + ys.length ≤ sizeLine) (q : Q .non (upd H p (.lst (xs ++ ys)))) : rExtT K (.ref p) [.ref b] H Q := ⟨p, b, xs, ys, rfl, rfl, h, h', hl, q⟩
theorem go_ext (h : H p = some (.lst xs)) (h' : H b = some (.lst ys)) (hl : xs.length + ys.length ≤ sizeLine) (q : Q .non (upd H p (.lst (xs ++ ys)))) : rExtend (.ref p) [.ref b] H Q := ⟨p, b, xs, ys, rfl, rfl, h, h', hl, q⟩
theorem go_clear (h : H p = some (.lst xs)) (q : Q .non (upd H p (.lst []))) : rClear (.ref p) [] H Q := ⟨p, xs, rfl, rfl, h, q⟩
theorem go_orI (q : Q (.int (Builtin.bitOr i j)) H) : rOrI (.int i) (.int j) H Q := ⟨i, j, rfl, rfl, q⟩
theorem go_andI (q : Q (.int (Builtin.bitAnd i j)) H) : rAndI (.int i) (.int j) H Q := ⟨i, j, rfl, rfl, q⟩
theorem go_bits (h : ta σ H fun x H1 => ∃ i, x = .int i ∧ Q (.int (Builtin.Int.intBits i : Nat)) H1) : tBits ta σ H Q := h
theorem go_setI2 (h : ∀ p, H p = none → ta σ (upd H p (SetO w p (fun _ => false) 0)) fun x H1 => tb σ H1 fun y H2 =>
  H2 p = some (SetO w p (fun _ => false) 0) ∧ ∃ i j : Int, x = .int i ∧ y = .int j ∧ ∀ (S : Int → Bool) (n : Nat), n ≤ 2 → (∀ k, S k = true ↔ k = i ∨ k = j) → Q (.ref p) (upd H2 p (SetO w p S n))) : tSetI2 w ta tb σ H Q := h
theorem go_isNV (q : Q (.bl (decide (x = .non))) H) : rIsN0 x .non H Q := ⟨rfl, q⟩
theorem go_notNV (q : Q (.bl (!decide (x = .non))) H) : rNotN0 x .non H Q := ⟨rfl, q⟩
end
end Rf
namespace Rf
open PySem PySem.Spec PyProof.Rows L2
theorem go_ite_t {P : Prop} [Decidable P] {A B : Prop} (h : P) (q : A) : if decide P = true then A else B := by rw [decide_eq_true h]; exact q
theorem go_ite_f {P : Prop} [Decidable P] {A B : Prop} (h : ¬ P) (q : B) : if decide P = true then A else B := by rw [decide_eq_false h, if_neg Bool.false_ne_true]; exact q
theorem go_ite_nt {P : Prop} [Decidable P] {A B : Prop} (h : P) (q : B) : if (!decide P) = true then A else B := by rw [decide_eq_true h]; exact q
theorem go_ite_nf {P : Prop} [Decidable P] {A B : Prop} (h : ¬ P) (q : A) : if (!decide P) = true then A else B := by rw [decide_eq_false h]; exact q
/-- [f x for x in a tuple], nothing written -/
theorem go_lcTM {K : PySem.W.Frag} {σ : L2.St} {H : Hp} {Q : VK} {te : TE} {vs : List Nat} {a : Addr} {xs : List V} {j : Nat} (hS : SqT K H a xs) (f : V → V) (hl : xs.length < sizeLine) (hw2 : ∀ v, wipe ((wipe σ vs).set j (some v)) vs = wipe σ vs)
    (he : ∀ x ∈ xs, ∀ (H' : Hp) (R : VK), Keep [] H H' → R (f x) H' → te ((wipe σ vs).set j (some x)) H' R)
    (hd : ∀ Dn, H Dn = none → Q (.ref Dn) (upd H Dn (.lst (xs.map f)))) : ∃ a', V.ref a = .ref a' ∧ (∃ xs, SqT K H a' xs) ∧ LcQ (Itt K a') (gName j) tYes te vs Q σ H := by
  refine ⟨a, rfl, ⟨xs, hS⟩, fun Dn hD => ?_⟩
  refine lc_tup (K := K) (a := a) (xs := xs) (fun i H' => H' = upd H Dn (.lst ((xs.take i).map f))) rfl (fun i H' _ e => by rw [e]; exact (Keep.new (S := []) hD).tup (by simp) hS) (fun i x H' hi e => ?_) (fun H' e => ?_)
  · subst e
    obtain ⟨h, e⟩ := List.getElem?_eq_some_iff.mp hi
    refine ⟨hw2 _, ?_⟩
    refine go_yes ?_
    rw [if_pos rfl]
    refine he x (e ▸ List.getElem_mem h) _ _ (Keep.new hD) ⟨_, upd_same, ?_, ?_⟩
    · rw [List.length_map, List.length_take]; omega
    · rw [upd_upd, List.take_succ_eq_append_getElem h, e, List.map_append]; rfl
  · subst e
    rw [List.take_length]
    exact hd Dn hD
/-! ### tables of lists of ints, by text -/
def tInts : List Int → TA
  | [] => tNil
  | x :: l => tCons (tC (.int x)) (tInts l)
def tblTrs (l : List (Str × List Int)) : List (TE × TE) := l.map fun p => (tC (.str p.1), tLst (tInts p.2))
theorem tInts_go {σ : L2.St} {H : Hp} : ∀ {l : List Int} {Q : List V → Hp → Prop}, Q (l.map V.int) H → tInts l σ H Q
  | [], _, h => h
  | x :: l, Q, h => by
    show tInts l σ H fun xs H2 => Q (.int x :: xs) H2
    exact tInts_go (l := l) h
def TblAt (H : Hp) (d : Addr) (l : List (Str × List Int)) : Prop := ∃ as : List Addr, H d = some (.dK ((l.zip as).map fun p => (Sum.inr p.1.1, V.ref p.2))) ∧ Paired (fun a (p : Str × List Int) => H a = some (.lst (p.2.map V.int))) as l
theorem TblAt.keep {H H' : Hp} {S : List Addr} {d : Addr} {l : List (Str × List Int)} (k : Keep [] H H') (h : TblAt H d l) : TblAt H' d l := by
  obtain ⟨as, h1, h2⟩ := h
  exact ⟨as, k _ _ h1 (by simp), Paired.mapP h2 fun a p e => k _ _ e (by simp)⟩
theorem tbl_pairs {σ : L2.St} : ∀ {l : List (Str × List Int)} {H : Hp} {Q : List (V × V) → Hp → Prop}, (∀ p ∈ l, p.2.length ≤ 100000) →
    (∀ (as : List Addr) (H' : Hp), Keep [] H H' → Paired (fun a (p : Str × List Int) => H' a = some (.lst (p.2.map V.int))) as l → (∀ a ∈ as, H a = none) → Q ((l.zip as).map fun p => (V.str p.1.1, V.ref p.2)) H') → tPairs (tblTrs l) σ H Q
  | [], H, Q, _, h => h [] H Keep.refl .nil (by simp)
  | p :: l, H, Q, hz, h => by
    show tLst (tInts p.2) σ H fun y H2 => tPairs (tblTrs l) σ H2 fun ps H3 => Q ((.str p.1, y) :: ps) H3
    refine tInts_go ⟨sz (by rw [List.length_map]; exact hz p (by simp)), fun a na => ?_⟩
    refine tbl_pairs (fun x hx => hz x (by simp [hx])) fun as H' k hp hn => ?_
    refine h (a :: as) H' ((Keep.new na).trans k) (.cons (k _ _ upd_same (by simp)) hp) fun b hb => ?_
    rcases List.mem_cons.1 hb with e | e
    · subst e; exact na
    · exact (Keep.new (S := []) na).free (hn b e) (by simp)
theorem merge_nodup : ∀ (l k : List (Key × V)), ((k ++ l).map (·.1)).Nodup → mergeK k l = k ++ l
  | [], k, _ => by simp [mergeK]
  | p :: l, k, h => by
    have hn : valV k p.1 = none := by
      cases e : valV k p.1 with
      | none => rfl
      | some v =>
        exfalso
        have := valV_in e
        rw [List.map_append, List.map_cons, List.nodup_append] at h
        exact h.2.2 _ this _ (by simp) rfl
    show mergeK (putK k p.1 p.2) l = _
    rw [putK_new _ hn, merge_nodup l (k ++ [p]) (by rw [List.append_assoc]; exact h), List.append_assoc]
    rfl
theorem Paired.mapM {α β : Type} {F G : α → β → Prop} : ∀ {l : List α} {r : List β}, Paired F l r → (∀ a b, a ∈ l → F a b → G a b) → Paired G l r
  | _, _, .nil, _ => .nil
  | _, _, .cons h t, k => .cons (k _ _ (by simp) h) (Paired.mapM t fun a b m e => k a b (by simp [m]) e)
theorem zip_keys : ∀ (l : List (Str × List Int)) (as : List Addr), as.length = l.length → ((l.zip as).map fun p => ((Sum.inr p.1.1 : Key), V.ref p.2)).map (·.1) = l.map fun p => (Sum.inr p.1 : Key)
  | [], _, _ => rfl
  | p :: l, [], h => by simp at h
  | p :: l, a :: as, h => by
    show _ :: ((l.zip as).map _).map _ = _ :: _
    rw [zip_keys l as (by simpa using h)]
theorem go_tbl {σ : L2.St} {H : Hp} {Q : VK} (l : List (Str × List Int)) {trs : List (TE × TE)} (e : trs = tblTrs l) (hn : (l.map fun p => (Sum.inr p.1 : Key)).Nodup) (hl : l.length ≤ 15) (hz : ∀ p ∈ l, p.2.length ≤ 100000)
    (q : ∀ d H', H d = none → Keep [] H H' → TblAt H' d l → Q (.ref d) H') : tDisp trs σ H Q := by
  subst e
  intro d nd
  refine tbl_pairs hz fun as H' k hp ha => ?_
  have hd := k _ _ upd_same (by simp)
  have len := Paired.length hp
  refine ⟨hd, (l.zip as).map fun p => (Sum.inr p.1.1, V.ref p.2), by rw [List.map_map]; rfl, by rw [List.length_map, List.length_zip]; omega, ?_⟩
  rw [merge_nodup _ _ (by rw [List.nil_append, zip_keys l as len]; exact hn), List.nil_append]
  refine q d _ nd (((Keep.new nd).trans k).fresh nd) ⟨as, upd_same, ?_⟩
  have hna : ∀ a ∈ as, a ≠ d := fun a m e => by
    have := ha a m
    rw [e, upd_same] at this; cases this
  exact Rf.Paired.mapM hp fun a p m e => by rw [upd_ne (hna a m)]; exact e
theorem tbl_val {F : Addr → Str × List Int → Prop} {w : Str} : ∀ {as : List Addr} {l : List (Str × List Int)}, Paired F as l →
    (∃ a pl, (w, pl) ∈ l ∧ F a (w, pl) ∧ valV ((l.zip as).map fun p => ((Sum.inr p.1.1 : Key), V.ref p.2)) (Sum.inr w) = some (.ref a)) ∨
    (w ∉ l.map (·.1) ∧ valV ((l.zip as).map fun p => ((Sum.inr p.1.1 : Key), V.ref p.2)) (Sum.inr w) = none)
  | _, _, .nil => Or.inr ⟨by simp, rfl⟩
  | _, _, @Paired.cons _ _ _ a p as l h t => by
    by_cases e : p.1 = w
    · refine Or.inl ⟨a, p.2, by rw [← e]; simp, by rw [← e]; exact h, ?_⟩
      show valV ((Sum.inr p.1, V.ref a) :: _) _ = _
      rw [valV_pos (by rw [e])]
    · have e2 : valV (((p :: l).zip (a :: as)).map fun p => ((Sum.inr p.1.1 : Key), V.ref p.2)) (Sum.inr w) = valV ((l.zip as).map fun p => ((Sum.inr p.1.1 : Key), V.ref p.2)) (Sum.inr w) := by
        show valV ((Sum.inr p.1, V.ref a) :: _) _ = _
        rw [valV_neg (fun z => e (Sum.inr.inj z))]
        rfl
      rw [e2]
      rcases tbl_val (w := w) t with ⟨b, pl, h1, h2, h3⟩ | ⟨h1, h2⟩
      · exact Or.inl ⟨b, pl, by simp [h1], h2, h3⟩
      · exact Or.inr ⟨by
          rw [List.map_cons, List.mem_cons]
          rintro (z | z)
          · exact e z.symm
          · exact h1 z, h2⟩
theorem TblAt.look {H : Hp} {d : Addr} {l : List (Str × List Int)} (w : Str) (h : TblAt H d l) :
    (∃ a pl, (w, pl) ∈ l ∧ H a = some (.lst (pl.map V.int)) ∧ DGet H d (.str w) (some (.ref a))) ∨ (w ∉ l.map (·.1) ∧ DGet H d (.str w) none) := by
  obtain ⟨as, h1, h2⟩ := h
  rcases tbl_val (w := w) h2 with ⟨a, pl, m, e, v⟩ | ⟨m, v⟩
  · exact Or.inl ⟨a, pl, m, e, go_dgetS (rdO h1) v⟩
  · exact Or.inr ⟨m, go_dgetS (rdO h1) v⟩
def tblGet (l : List (Str × List Int)) (w : Str) : Option (List Int) := (l.find? fun p => decide (p.1 = w)).map (·.2)
theorem tbl_get {H : Hp} {w : Str} : ∀ {as : List Addr} {l : List (Str × List Int)}, Paired (fun a (p : Str × List Int) => H a = some (.lst (p.2.map V.int))) as l →
    (∀ pl, tblGet l w = some pl → ∃ a, H a = some (.lst (pl.map V.int)) ∧ valV ((l.zip as).map fun p => ((Sum.inr p.1.1 : Key), V.ref p.2)) (Sum.inr w) = some (.ref a)) ∧
    (tblGet l w = none → valV ((l.zip as).map fun p => ((Sum.inr p.1.1 : Key), V.ref p.2)) (Sum.inr w) = none)
  | _, _, .nil => ⟨fun pl e => (by cases e), fun _ => rfl⟩
  | _, _, @Paired.cons _ _ _ a p as l h t => by
    obtain ⟨i1, i2⟩ := tbl_get (w := w) t
    by_cases e : p.1 = w
    · have e1 : tblGet (p :: l) w = some p.2 := by unfold tblGet; simp [List.find?_cons, e]
      have e2 : valV (((p :: l).zip (a :: as)).map fun p => ((Sum.inr p.1.1 : Key), V.ref p.2)) (Sum.inr w) = some (.ref a) := by
        show valV ((Sum.inr p.1, V.ref a) :: _) _ = _
        rw [valV_pos (by rw [e])]
      exact ⟨fun pl z => ⟨a, (by rw [e1] at z; cases z; exact h), e2⟩, fun z => by rw [e1] at z; cases z⟩
    · have e1 : tblGet (p :: l) w = tblGet l w := by unfold tblGet; simp [List.find?_cons, e]
      have e2 : valV (((p :: l).zip (a :: as)).map fun p => ((Sum.inr p.1.1 : Key), V.ref p.2)) (Sum.inr w) = valV ((l.zip as).map fun p => ((Sum.inr p.1.1 : Key), V.ref p.2)) (Sum.inr w) := by
        show valV ((Sum.inr p.1, V.ref a) :: _) _ = _
        rw [valV_neg (fun z => e (Sum.inr.inj z))]
        rfl
      rw [e1, e2]
      exact ⟨i1, i2⟩
theorem TblAt.some {H : Hp} {d : Addr} {l : List (Str × List Int)} {w : Str} {pl : List Int} (h : TblAt H d l) (e : tblGet l w = some pl) : ∃ a, H a = some (.lst (pl.map V.int)) ∧ DGet H d (.str w) (some (.ref a)) := by
  obtain ⟨as, h1, h2⟩ := h
  obtain ⟨a, h3, h4⟩ := (tbl_get (w := w) h2).1 pl e
  exact ⟨a, h3, go_dgetS (rdO h1) h4⟩
theorem TblAt.none {H : Hp} {d : Addr} {l : List (Str × List Int)} {w : Str} (h : TblAt H d l) (e : tblGet l w = none) : DGet H d (.str w) none := by
  obtain ⟨as, h1, h2⟩ := h
  exact go_dgetS (rdO h1) ((tbl_get (w := w) h2).2 e)
theorem sqT_upd {K : PySem.W.Frag} {H : Hp} {a p : Addr} {o : HO} {xs : List V} (h : SqT K H a xs) (n : H p = none) : SqT K (upd H p o) a xs := (Keep.new (S := []) n).tup (by simp) h
theorem sqL_upd {K : PySem.W.Frag} {H : Hp} {a p : Addr} {o : HO} {xs : List V} (h : SqL K H a xs) (n : H p = none) : SqL K (upd H p o) a xs := (Keep.new (S := []) n).seq (by simp) h
end Rf
namespace Rf
section
open PySem PySem.Spec PyProof.Rows L2 PySem.Calls
/-! ### set(xs) of a list of ints -/
abbrev rf_ns (w : World) : Obj := { cls := .type "set", dict := none, data := .set #[] 0 (.fresh 0 0 (!w.params.followText "set-order")) }
section
variable {P : Program} {w : World} {A : Around} {E : Value → Shared → Prop} {s : Shared}
/-- set.__init__ on the new set, given a list -/
theorem rf_set_init {l S : Addr} {ol : Obj} {us : Array Value} {n0 : Nat} {ns : List Int} {R : Result → Shared → Prop} {h0 : Heap} (hh : A.handled = none) (e0 : h0.get? l = some ol) (ec : ol.cls = .type "list") (ed : ol.data = .seq us n0) (eS : h0.get? S = some (rf_ns w)) (lS : S + 1 = h0.objs.size)
    (li : l < S) (z : us.size = ns.length) (hi : IntsAre us.toList ns) (room : ns.length + 1 < scanBound)
    (fin : ∀ h2 tk c, SetR w h2 S (fun j => decide (j ∈ ns)) c → c ≤ ns.length → (∀ b o, b ≠ S → h0.get? b = some o → h2.get? b = some o) → R (.ok (.ret .none)) { s with heap := h2, toks := tk }) :
    codeAny (model P w) A (.call (.builtin "set.__init__") ⟨[.ref S, .ref l], []⟩) R { s with heap := h0 } := by
  have hT : Shared.TypeIs { s with heap := h0 } (.ref S) "set" := ⟨_, eS, rfl⟩
  refine codeAny_call_builtin F.called_set.init.plain F.entry_set_init (check_set_init_1 hT ?_)
  obtain ⟨c1, d1, da, sl⟩ := ol
  simp only at ec ed
  subst ec ed
  have g1 := F.sub_list_set
  have g2 := F.sub_list_frozenset
  have g3 : (Value.type "list" == Value.type "dict") = false := by decide
  have pl : h0.IsList l us := ⟨_, e0, rfl, n0, rfl⟩
  unfold Builtin.«set.__init__» noKeywords
  unfold Builtin.Frozenset.updateFrom
  generalize hPI : pyIter = PI
  wp_walk
  subst hPI
  refine wpAny_pyIter_list pl (wpAny_bind (wpAny_runValue ?_))
  have q3 : A.in1.in1.handled = none := by simp [hh]
  have q1 : l ≠ h0.objs.size := by rw [← lS]; exact Nat.ne_of_lt (Nat.lt_succ_of_lt li)
  have q2 : S ∉ [h0.objs.size, l] := by
    simp only [List.mem_cons, List.mem_singleton, List.not_mem_nil, or_false, not_or]
    exact ⟨by rw [← lS]; exact Nat.ne_of_lt (Nat.lt_succ_self _), Nat.ne_of_gt li⟩
  have vals : ∀ (i : Nat) (v : Value), us[i]? = some v → ∃ k t, ns[i]? = some k ∧ v = .int k t := fun i v hv => by
    have lt : i < ns.length := by rw [← z]; exact (Array.getElem?_eq_some_iff.mp hv).1
    obtain ⟨t, e⟩ := IntsAre.int_at hi i v (by rw [Array.getElem?_toList]; exact hv)
    exact ⟨ns[i], t, List.getElem?_eq_getElem lt, by rw [e, List.getD_eq_getElem?_getD, List.getElem?_eq_getElem lt] <;> rfl⟩
  have eS2 : (h0.push { cls := .type "list_iterator", data := .fields #[.ref l, .int 0 0] }).get? S = some (rf_ns w) := Heap.get?_push_of_some _ eS
  refine L2.set_update_ints ((Walks.list q3 _ l q1 us).toS) S q2 ns z room vals (us.size - 0) 0 _ (by omega) (Nat.zero_le _) ?st ?hS ?hR
  case st => exact ⟨⟨_, Heap.get?_push_size _ rfl, rfl, rfl⟩, pl.push _⟩
  case hS => exact ⟨0, Nat.le_refl 0, L2.setR_new_at eS2⟩
  intro s2 c mv hc R2
  obtain ⟨h2, g2, d2, t2, o2⟩ := s2
  have x1 : g2 = s.gens := mv.gens
  have x2 : d2 = s.drawn := mv.drawn
  have x3 : o2 = s.os := mv.os
  subst x1 x2 x3
  show wpAny _ _ _ _ _ _
  refine wpAny_pure ?_
  show wpAny _ _ (ret Value.none) _ _ _
  rw [z] at hc
  refine wpAny_pure (fin h2 t2 c R2 hc fun b o hb e => ?_)
  have lb := Heap.lt_size e
  exact mv.heap b o (by simp only [List.mem_cons, List.mem_singleton, List.not_mem_nil, or_false, not_or]; exact ⟨hb, Nat.ne_of_lt lb⟩) (Heap.get?_push_of_some _ e)
theorem rf_call_set {l : Addr} {us : Array Value} (ns : List Int) {Q : Value → Shared → Prop} (hh : A.handled = none) (hl : s.heap.IsList l us) (hi : IntsAre us.toList ns) (room : ns.length + 1 < scanBound)
    (fin : ∀ h2 tk c, SetR w h2 s.heap.objs.size (fun j => decide (j ∈ ns)) c → c ≤ ns.length → (∀ b o, s.heap.get? b = some o → h2.get? b = some o) → Q (.ref s.heap.objs.size) { s with heap := h2, toks := tk }) :
    wpAny (model P w) A (call (.type "set") [.ref l]) Q E s := by
  have z : us.size = ns.length := by rw [← Array.length_toList]; exact IntsAre.length hi
  obtain ⟨c, tl, hmro⟩ := F.called_set.mro
  have made := F.called_set.made
  have sub := F.called_set.sub
  refine wpAny_call (codeAny_of_tree ?_)
  show wpAny (model P w) _ (callAny (.type "set") ⟨[.ref l], []⟩) _ _ s
  refine wpAny_pure ⟨Code.quiet_builtin _ (by decide +kernel), codeAny_builtin F.entry_type_call ?_⟩
  rw [Around.under_plain (weight_type_call_type "set" [.ref l] []) rfl]
  have n1 := F.called_set.notType
  have n2 := F.called_set.canCreate
  have n3 := F.typeCall_set_1 (.ref l)
  repeat (any_goals (first | assumption | wp_step))
  refine codeAny_mono (L2.code_set_led1 (.ref l) (E := E) (Q₁ := fun v s1 => v = .ref s.heap.objs.size ∧ s1 = { s with heap := s.heap.push (rf_ns w) }) ⟨rfl, rfl⟩) fun r s1 hr => ?_
  cases r with
  | error er => exact hr
  | ok fl =>
    cases fl with
    | ret v =>
      obtain ⟨rfl, rfl⟩ := hr
      have eS : (s.heap.push (rf_ns w)).get? s.heap.objs.size = some (rf_ns w) := Heap.get?_push_size _ rfl
      have hT : Shared.TypeIs { s with heap := s.heap.push (rf_ns w) } (.ref s.heap.objs.size) "set" := ⟨_, eS, rfl⟩
      have i1 := F.called_set.init.lookup
      have i2 := F.called_set.init.bind (.ref s.heap.objs.size)
      repeat (any_goals (first | assumption | wp_step))
      obtain ⟨ol, hol, ec, n0, ed⟩ := hl
      refine codeAny_mono (rf_set_init (s := s) (R := wants (fun r s2 => r = .none ∧ ∃ h2 tk c, s2 = { s with heap := h2, toks := tk } ∧ SetR w h2 s.heap.objs.size (fun j => decide (j ∈ ns)) c ∧ c ≤ ns.length ∧ ∀ b o, s.heap.get? b = some o → h2.get? b = some o) E) hh (Heap.get?_push_of_some _ hol) ec ed eS (by rw [Heap.size_push]) (Heap.lt_size hol) z hi room
        fun h2 tk c R2 hc k => ⟨rfl, h2, tk, c, rfl, R2, hc, fun b o e => k b o (Nat.ne_of_lt (Heap.lt_size e)) (Heap.get?_push_of_some _ e)⟩) fun r2 s2 hr2 => ?_
      cases r2 with
      | error er => exact hr2
      | ok fl2 =>
        cases fl2 with
        | ret r =>
          obtain ⟨rfl, h2, tk, c, rfl, R2, hc, k⟩ := hr2
          repeat (any_goals (first | assumption | wp_step))
          exact fin _ _ _ R2 hc k
        | _ => exact hr2.elim
    | _ => exact hr.elim
end
end
end Rf
namespace Rf
open PySem PySem.Spec PyProof.Rows L2
/-- set(xs), xs a list of ints -/
def rSetL (K : PySem.W.Frag) (w : World) : List V → Hp → VK → Prop := fun xs H Q => ∃ (l : Addr) (ns : List Int), xs = [.ref l] ∧ SqL K H l (ns.map V.int) ∧ ns.length ≤ 60 ∧ ∀ p n, H p = none → n ≤ ns.length → Q (.ref p) (upd H p (SetO w p (fun j => decide (j ∈ ns)) n))
section
variable {X : Cx}
theorem cr_setL (hc : X.calm = true) : CallR X (.type "set") (rSetL X.K X.w) := by
  intro pins s σ H xs us Q I r h
  obtain ⟨l, ns, rfl, hs, hz, q⟩ := h
  obtain ⟨u, rfl, ru⟩ := vals1 r
  cases ru
  obtain ⟨its, rv, pl, _⟩ := I.list hs
  refine rf_call_set ns (I.ok.hd hc) pl.isList (by simpa using ints_of_vals rv) (by unfold scanBound; omega) fun h2 tk c R2 hcn k => ?_
  exact ⟨.ref s.heap.objs.size, _, I.laid (t' := tk) k (Nat.le_refl _) (setO_new R2), rfl, q _ _ (I.hok.fresh (Nat.le_refl _)) hcn⟩
end
end Rf
namespace Rf
open PySem PySem.Spec PyProof.Rows L2 PpSet
/-! ### {elt for target in iter if ..}, elt an int -/
/-- Dn: the new set -/
def tScI (w : World) (wi : TI) (g : TG) (tt : TT) (te : TE) (vs : List Nat) : TE := fun σ H Q => wi σ H fun J H1 => ∀ Dn, H1 Dn = none → ∃ W : Nat → Nat → Hp → Prop, (∃ m, W 0 m (upd H1 Dn (SetO w Dn (fun _ => false) 0))) ∧ ∀ i m H, W i m H →
  (J.stop i H ∧ Q (.ref Dn) H) ∨ (J.go i H ∧ ∃ Nx : Hp → Prop, (∀ H', Nx H' → ∃ m', m' < m ∧ W (i + 1) m' H') ∧ ∀ x H', J.yld i H x H' → g x (wipe σ vs) H' fun σ2 H2 => wipe σ2 vs = wipe σ vs ∧ tt σ2 H2 fun b H3 =>
    if b = true then te σ2 H3 fun y H4 => ∃ (c : Int) (S : Int → Bool) (n : Nat), y = .int c ∧ H4 Dn = some (SetO w Dn S n) ∧ n + 1 < scanBound ∧ Nx (upd H4 Dn (SetO w Dn (fun j => S j || decide (j = c)) (if S c = true then n else n + 1))) else Nx H3)
theorem hu65 {k : Nat} {A : Around} (r : Room k A) : A.units + 65 < cLine := by have := r.un; omega
section
variable {X : Cx}
theorem addI_ok {pins : List (Addr × Obj)} {σ : L2.St} {H : Hp} {s : Shared} {E : Value → Shared → Prop} {Dn : Addr} {S : Int → Bool} {n : Nat} {y : Int} {t : Tok} {Q : Value → Shared → Prop} (I : Inv X pins σ H s) (hD : H Dn = some (SetO X.w Dn S n)) (room : n + 1 < scanBound)
    (h : ∀ s', Inv X pins σ (upd H Dn (SetO X.w Dn (fun j => S j || decide (j = y)) (if S y = true then n else n + 1))) s' → Q .none s') : wpAny (model X.prog X.w) X.A (call (.builtin "set.add") [.ref Dn, .int y t]) Q E s := by
  refine setR_add (setO_get I hD) room fun h2 sb new => ?_
  refine h _ (I.write (e := Dn) (t' := s.toks + 1) (by rw [hD]; trivial) (.inl rfl) (fun b u hb hu => (sb.2 b hb).trans hu) ?_ (setO_new new))
  obtain ⟨o, _, _, _, ho, _⟩ := new
  exact ⟨o, ho⟩
theorem pe_scI {elt tg iter : Expr} {ifs : List Expr} {scope : Scope} {own : List (PySem.Str × Nat)} {pos : Pos} {wi : TI} {g : TG} {tt : TT} {te : TE} (calm : X.calm = true) (nd : X.N.Nodup) (hi : PI X tg iter wi) (bo : BlkOk X.N X.env.scope scope own)
    (gT : ∀ (s : Shared) (H : Hp) (C : Addr) (cl : List (PySem.Str × Addr)) (fp : List Addr), PG (X.blk s H scope (compEnvC scope cl C X.env) fp) tg g)
    (gI : ∀ (s : Shared) (H : Hp) (C : Addr) (cl : List (PySem.Str × Addr)) (fp : List Addr), PTs (X.blk s H scope (compEnvC scope cl C X.env) fp) ifs tt)
    (gE : ∀ (s : Shared) (H : Hp) (C : Addr) (cl : List (PySem.Str × Addr)) (fp : List Addr), PE (X.blk s H scope (compEnvC scope cl C X.env) fp) elt te) (hf : ∀ x, foldedSetIterable iter X.env x = pure x := by intro _; rfl) :
    PE X (.SetComp elt [⟨tg, iter, ifs, 0⟩] scope pos) (tScI X.w wi g tt te (own.map (·.2))) := by
  refine ⟨fun pins s σ H Q I0 h => ?_⟩
  rw [eval_SetComp]
  have cells : ∀ y ∈ scope.names, y.2 = .free → ∃ c, X.env.cells.lookup y.1 = some c := fun y hy e => (bo.free y hy e).elim (fun k => I0.ok.has _ (.inl k)) fun k => I0.ok.has _ (.inr k)
  refine wpAny_comprehension_free rfl hf (closure_ok cells) bo.kind (fun y hy e => by rw [bo.uniq y hy, e]) (thn (hi.run pins s σ H _ I0 h) fun xv s1 hx => thn hx fun itv r2 h2 => ?_)
  obtain ⟨it, fp, tn, J, Ha, rfl, I2, T, t0, okf, q⟩ := h2
  refine newSet_ok (newEnv_comp ?_)
  generalize hD : r2.heap.objs.size = D
  have nD : Ha D = none := I2.hok.fresh (Nat.le_of_eq hD)
  obtain ⟨W, ⟨m0, w0⟩, turn⟩ := q D nD
  -- the new set
  generalize e3 : ({ r2 with heap := r2.heap.push (rf_ns X.w) } : Shared) = r3
  have I3 : Inv X pins σ (upd Ha D (SetO X.w D (fun _ => false) 0)) r3 := by
    rw [← e3]
    refine I2.laid (t' := r2.toks) (fun b o e => Heap.get?_push_of_some _ e) (Nat.le_of_eq hD) ?_
    rw [← hD]; exact setO_new (setR_fresh X.w)
  have h3 : r3.heap = r2.heap.push (rf_ns X.w) := by rw [← e3]
  have fpl : ∀ b ∈ fp, b < r2.heap.objs.size := fun b hb => (T.obj _ _ t0 b hb).elim fun o e => Heap.lt_size e.1
  have okf3 : ∀ b ∈ fp, FpOk X pins (upd Ha D (SetO X.w D (fun _ => false) 0)) b ∧ b < r3.heap.objs.size := fun b hb => by
    have l := fpl b hb
    refine ⟨⟨?_, (okf b hb).2⟩, by rw [h3, Heap.size_push]; exact Nat.lt_succ_of_lt l⟩
    rw [upd_ne (by rw [← hD]; exact Nat.ne_of_lt l)]; exact (okf b hb).1
  have t3 : tn 0 r3.heap := T.keep _ _ _ t0 fun b _ o e => by rw [h3]; exact Heap.get?_push_of_some _ e
  have I4 := block_start I3 bo nd okf3
  generalize ecl : cellsFrom (r3.heap.objs.size + 1) scope.names (cloFrom X.env.cells scope.names []) = cl at I4
  have bt := gT r3 (upd Ha D (SetO X.w D (fun _ => false) 0)) r3.heap.objs.size cl fp
  have bi := gI r3 (upd Ha D (SetO X.w D (fun _ => false) 0)) r3.heap.objs.size cl fp
  have be := gE r3 (upd Ha D (SetO X.w D (fun _ => false) 0)) r3.heap.objs.size cl fp
  have frees : ∀ b ∈ fp, (upd Ha D (SetO X.w D (fun _ => false) 0)) b = none := fun b hb => (okf3 b hb).1.1
  show codeAny _ _ (.compStart (.SetComp elt [⟨tg, iter, ifs, 0⟩] scope pos) 0 (.ref it) (.ref D) (compEnvC scope cl r3.heap.objs.size X.env)) (compPost (model X.prog X.w) X.A X.xe none _ (.ref D) r3.heap.objs.size) { r3 with heap := pushCells (r3.heap.push { cls := .type "dict", data := .dict #[] }) scope.names }
  generalize ec : compEnvC scope cl r3.heap.objs.size X.env = ce at I4 bt bi be ⊢
  have ceL : ce.locals = r3.heap.objs.size := by subst ec; rfl
  generalize eH : upd Ha D (SetO X.w D (fun _ => false) 0) = Hb at I3 I4 bt bi be w0 frees okf3
  generalize e4 : ({ r3 with heap := pushCells (r3.heap.push { cls := .type "dict", data := .dict #[] }) scope.names } : Shared) = r4 at I4 ⊢
  have t4 : tn 0 r4.heap := T.keep _ _ _ t3 fun b _ o e => by rw [← e4]; exact pushCells_keeps _ _ _ _ (Heap.get?_push_of_some _ e)
  have stays : ∀ {σ' : L2.St} {H' : Hp} {s' : Shared}, Inv (X.blk r3 Hb scope ce fp) [] σ' H' s' → (∀ b ∈ fp, H' b = none) → ∀ b ∈ fp, FpOk (X.blk r3 Hb scope ce fp) [] H' b := fun {σ' H' s'} I' hn b hb =>
    ⟨hn b hb, (I'.ok.exf b hb).1, I'.ok.exfs b hb, .inl hb, fun x c e => (I'.ok.exf b hb).2 x c e, fun p hp => absurd (show p ∈ ([] : List (Addr × Obj)) ++ [] from hp) (by simp)⟩
  refine codeAny_compStart_set ?lo ?st
  case st => exact T.self X.A 0 _ _ _ t4 ?lo
  refine compLoopS_any (fun n s' => ∃ i H', Inv (X.blk r3 Hb scope ce fp) [] (wipe σ (own.map (·.2))) H' s' ∧ tn i s'.heap ∧ (∀ b ∈ fp, H' b = none) ∧ W i n H') ?_ m0 ⟨0, Hb, I4, t4, frees, w0⟩
  rintro n r5 ⟨i, H5, I5, t5, n5, w5⟩
  rcases turn i n H5 w5 with ⟨halt, qq⟩ | ⟨go, Nx, next, step⟩
  · refine thnF (T.done (X.blk r3 Hb scope ce fp) rfl rfl rfl calm i [] r5 _ H5 (fun _ _ => False) I5 (stays I5 n5) t5 halt) fun r r6 hr6 => ?_
    obtain ⟨rfl, I6⟩ := hr6
    -- in the def's context again
    have I7 : Inv X pins σ H5 r6 := I3.call' (ch := fp) I6.os I6.base I6.hok I6.bare fun b hb => ⟨(okf3 b hb).1.2.2.2.1, (okf3 b hb).1.2.1, (okf3 b hb).1.2.2.2.2.1, (okf3 b hb).1.2.2.2.2.2⟩
    have nC : H5 r3.heap.objs.size = none := by have z : H5 ce.locals = none := I6.free; rw [ceL] at z; exact z
    obtain ⟨m, ns, _⟩ := I6.loc
    have ns : r6.heap.Ns ce.locals m := ns
    rw [ceL] at ns
    obtain ⟨f0, f1, f2, f3, f4, f5⟩ := I3.fpOk (Nat.le_refl _) nC
    exact ⟨m, ns, fun h9 sb => ⟨.ref D, H5, I7.turned (t' := r6.toks) (fun b o hb e => (sb.2 b hb).trans e) f0 f1 f3 f4 f5, rfl, qq⟩⟩
  · refine thnF (T.item (X.blk r3 Hb scope ce fp) rfl rfl rfl calm i [] r5 _ H5 (fun _ _ => False) I5 (stays I5 n5) t5 go) fun r r6 hr6 => ?_
    obtain ⟨u, rfl, h6⟩ := hr6
    refine thnF h6 fun _ r7 h7 => ?_
    obtain ⟨x, H7, I7, rx, y7, t7, n7⟩ := h7
    refine thnF (bt.run _ r7 _ H7 x u _ (I7.pinned (stays I7 n7) (T.obj _ _ t7)) rx (step x H7 y7)) fun _ r8 h8 => ?_
    obtain ⟨σ8, H8, I8, hw, q8⟩ := h8
    refine thnF (bi.run _ r8 σ8 H8 _ I8 q8) fun b r9 h9 => ?_
    obtain ⟨H9, I9, q9⟩ := h9
    have fin : ∀ {s' : Shared} {H' : Hp}, Inv (X.blk r3 Hb scope ce fp) ([] ++ pinsAt fp r7.heap) σ8 H' s' → Nx H' → ∃ m, m < n ∧ ∃ i H', Inv (X.blk r3 Hb scope ce fp) [] (wipe σ (own.map (·.2))) H' s' ∧ tn i s'.heap ∧ (∀ b ∈ fp, H' b = none) ∧ W i m H' := fun {s' H'} Ie nx => by
      obtain ⟨m', lt, we⟩ := next H' nx
      have pin : ∀ b ∈ fp, ∀ o, r7.heap.get? b = some o → s'.heap.get? b = some o ∧ H' b = none := fun b hb o e => by
        have z := Ie.pin (b, o) (List.mem_append_right _ (List.mem_append_right _ (mem_pinsAt hb e)))
        exact ⟨z.1, z.2.1⟩
      have len : (wipe σ (own.map (·.2))).length = σ8.length := by rw [← hw, wipe_length]
      refine ⟨m', lt, i + 1, H', (Ie.unpinned (pins := [])).weak len (fun j v e => by rw [← hw] at e; exact (wipe_some e).1), T.keep _ _ _ t7 fun b hb o e => (pin b hb o e).1, fun b hb => ?_, we⟩
      obtain ⟨o, e, _⟩ := T.obj _ _ t7 b hb
      exact (pin b hb o e).2
    cases b with
    | false =>
      simp only [Bool.false_eq_true, if_false] at q9 ⊢
      exact fin I9 q9
    | true =>
      simp only [if_true] at q9 ⊢
      refine thnF (be.run _ r9 σ8 H9 _ I9 q9) fun z r10 h10 => ?_
      obtain ⟨yv, H10, I10, rz, c, S, k, rfl, hS, room, nx⟩ := h10
      obtain ⟨tz, rfl⟩ := rz
      exact addI_ok (X := X.blk r3 Hb scope ce fp) I10 hS room fun r11 I11 => fin I11 nx
end
end Rf
namespace CM
open PySem PySem.Spec PyProof.Rows L2 Rf
open PySem.PyData (strOk)
/-! ### good data: ints, texts, None, lists and tuples of them -/
mutual
def gd : PyData → Bool
  | .none => true
  | .int _ => true
  | .str x => strOk x
  | .list xs => decide (xs.length ≤ 1000) && gdA xs
  | .tuple xs => decide (xs.length ≤ 1000) && gdA xs
  | .bool _ => false
  | .dict _ => false
def gdA : List PyData → Bool
  | [] => true
  | x :: xs => gd x && gdA xs
end
mutual
theorem gd_lay : ∀ d : PyData, gd d = true → d.canLay0 = true
  | .none, _ => by simp [PyData.canLay0]
  | .int _, _ => by simp [PyData.canLay0]
  | .str x, h => by simpa [PyData.canLay0, gd] using h
  | .list xs, h => by
    simp only [gd, Bool.and_eq_true] at h
    simp only [PyData.canLay0]; exact gdA_lay xs h.2
  | .tuple xs, h => by
    simp only [gd, Bool.and_eq_true] at h
    simp only [PyData.canLay0]; exact gdA_lay xs h.2
theorem gdA_lay : ∀ ds : List PyData, gdA ds = true → PyData.canLayAll0 ds = true
  | [], _ => by simp [PyData.canLayAll0]
  | x :: xs, h => by
    simp only [gdA, Bool.and_eq_true] at h
    simp only [PyData.canLayAll0, Bool.and_eq_true]
    exact ⟨gd_lay x h.1, gdA_lay xs h.2⟩
end
mutual
theorem gd_eqv : ∀ d : PyData, gd d = true → PyData.eqv d d = true
  | .none, _ => by simp [PyData.eqv]
  | .int _, _ => by simp [PyData.eqv]
  | .str x, h => by simp [PyData.eqv]
  | .list xs, h => by
    simp only [gd, Bool.and_eq_true] at h
    simp only [PyData.eqv]; exact gdA_eqv xs h.2
  | .tuple xs, h => by
    simp only [gd, Bool.and_eq_true] at h
    simp only [PyData.eqv]; exact gdA_eqv xs h.2
theorem gdA_eqv : ∀ ds : List PyData, gdA ds = true → PyData.eqvAll ds ds = true
  | [], _ => by simp [PyData.eqvAll]
  | x :: xs, h => by
    simp only [gdA, Bool.and_eq_true] at h
    simp only [PyData.eqvAll, Bool.and_eq_true]
    exact ⟨gd_eqv x h.1, gdA_eqv xs h.2⟩
end
theorem gdA_all : ∀ {ds : List PyData}, gdA ds = true ↔ ∀ d ∈ ds, gd d = true
  | [] => by simp [gdA]
  | x :: xs => by simp [gdA, gdA_all (ds := xs)]
theorem depthAll_le : ∀ {ds : List PyData} {n : Nat}, (∀ d ∈ ds, d.depth ≤ n) → PyData.depthAll ds ≤ n
  | [], n, _ => by simp [PyData.depthAll]
  | x :: xs, n, h => by
    simp only [PyData.depthAll]
    exact Nat.max_le.2 ⟨h x (by simp), depthAll_le fun d hd => h d (by simp [hd])⟩
theorem depthAll_ge : ∀ {ds : List PyData} {d : PyData}, d ∈ ds → d.depth ≤ PyData.depthAll ds
  | x :: xs, d, h => by
    simp only [PyData.depthAll]
    rcases List.mem_cons.1 h with e | e
    · subst e; exact Nat.le_max_left _ _
    · exact Nat.le_trans (depthAll_ge e) (Nat.le_max_right _ _)
theorem gd_shaped {d : PyData} (h : gd d = true) (n : d.depth ≤ 64) : SeqAt.shaped d = true := by
  show (d.canLay0 && decide (d.depth ≤ 64)) = true
  rw [Bool.and_eq_true]
  exact ⟨gd_lay d h, decide_eq_true n⟩
/-- ints as data -/
def intsD (l : List Int) : List PyData := l.map PyData.int
theorem gd_ints (l : List Int) : gdA (intsD l) = true := by
  rw [gdA_all]; intro d hd
  obtain ⟨i, _, rfl⟩ := List.mem_map.1 hd
  rfl
theorem depth_ints (l : List Int) : PyData.depthAll (intsD l) = 0 := by
  have : PyData.depthAll (intsD l) ≤ 0 := depthAll_le fun d hd => by
    obtain ⟨i, _, rfl⟩ := List.mem_map.1 hd
    simp [PyData.depth]
  omega
/-! ### words -/
structure WordOk (s : Str) : Prop where
  lo : 1 ≤ s.length
  hi : s.length ≤ 12
  ok : strOk s = true
theorem strOk_append {s t : Str} (h : strOk s = true) (h' : strOk t = true) : strOk (s ++ t) = true := by
  have e : (s ++ t).cps = s.cps ++ t.cps := rfl
  unfold strOk at *
  rw [e, Array.all_append, h, h']; rfl
theorem len_append (s t : Str) : (s ++ t).length = s.length + t.length := by
  show (s.cps ++ t.cps).size = _
  rw [Array.size_append]; rfl
/-- the sign at a place of a text -/
theorem sign_ok {s : Str} {c : Nat} (h : strOk s = true) (m : c ∈ s.cps.toList) : strOk ⟨#[c]⟩ = true := by
  unfold strOk at *
  rw [← Array.all_toList, List.all_eq_true] at h
  simpa using h c m
theorem join_empty (ys : List Str) : (Txt.join "" ys).cps.toList = (ys.map fun y => y.cps.toList).flatten := by
  have e := SX.join_S [] (ys.map fun y => y.cps.toList)
  have e1 : (ys.map fun y => y.cps.toList).map SX.S = ys := by
    rw [List.map_map]
    conv => rhs; rw [← List.map_id ys]
    exact List.map_congr_left fun y _ => rfl
  rw [e1] at e
  have e2 : Txt.join "" ys = Txt.join (SX.S []) ys := rfl
  rw [e2, e]
  have j : ∀ l : List (List Nat), TL.joinL [] l = l.flatten := by
    intro l
    induction l with
    | nil => rfl
    | cons p r ih =>
      cases r with
      | nil => simp [TL.joinL]
      | cons q r =>
        show p ++ ([] ++ TL.joinL [] (q :: r)) = _
        rw [ih]; simp
  rw [j]
theorem join_signs {ys : List Str} (h : ∀ y ∈ ys, y.length = 1 ∧ strOk y = true) : (Txt.join "" ys).length = ys.length ∧ strOk (Txt.join "" ys) = true := by
  have e := join_empty ys
  constructor
  · show (Txt.join "" ys).cps.size = _
    rw [← Array.length_toList, e]
    clear e
    induction ys with
    | nil => rfl
    | cons y ys ih =>
      rw [List.map_cons, List.flatten_cons, List.length_append, ih fun z hz => h z (by simp [hz])]
      have := (h y (by simp)).1
      have e2 : y.cps.toList.length = y.length := by simp [Str.length]
      rw [e2, this, List.length_cons]; omega
  · unfold strOk
    rw [← Array.all_toList, e, List.all_eq_true]
    intro c hc
    obtain ⟨l, hl, hc⟩ := List.mem_flatten.1 hc
    obtain ⟨y, hy, rfl⟩ := List.mem_map.1 hl
    have := (h y hy).2
    unfold strOk at this
    rw [← Array.all_toList, List.all_eq_true] at this
    exact this c hc
/-! ### rows -/
inductive Ins where
  | const (a : Int) (d : PyData)
  | two (w : Str) (a b : Int)
  | op (n : Str) (a b c : Int)
  | jump (t : Int)
  | branch (a t : Int)
  | nam (w : Str) (a : Int) (n : Str)
  | setg (n : Str) (a : Int)
  | get (a b : Int) (n : Str)
  | put (a : Int) (n : Str) (b : Int)
  | three (w : Str) (a b c : Int)
  | call (a : Int) (n : Str) (g : List Int)
  | callv (a b : Int) (g : List Int)
  | meth (a b : Int) (n : Str) (g : List Int)
  | spawn (n : Str) (g : List Int)
  | pause
  | one (w : Str) (a : Int)
def Ins.data : Ins → List PyData
  | .const a d => [.str "const", .int a, d]
  | .two w a b => [.str w, .int a, .int b]
  | .op n a b c => [.str "op", .str n, .int a, .int b, .int c]
  | .jump t => [.str "jump", .int t]
  | .branch a t => [.str "branch", .int a, .int t]
  | .nam w a n => [.str w, .int a, .str n]
  | .setg n a => [.str "setg", .str n, .int a]
  | .get a b n => [.str "get", .int a, .int b, .str n]
  | .put a n b => [.str "put", .int a, .str n, .int b]
  | .three w a b c => [.str w, .int a, .int b, .int c]
  | .call a n g => [.str "call", .int a, .str n, .tuple (intsD g)]
  | .callv a b g => [.str "callv", .int a, .int b, .tuple (intsD g)]
  | .meth a b n g => [.str "method", .int a, .int b, .str n, .tuple (intsD g)]
  | .spawn n g => [.str "spawn", .str n, .tuple (intsD g)]
  | .pause => [.str "pause"]
  | .one w a => [.str w, .int a]
def Ins.word : Ins → Str
  | .const _ _ => "const" | .two w _ _ => w | .op _ _ _ _ => "op" | .jump _ => "jump" | .branch _ _ => "branch" | .nam w _ _ => w | .setg _ _ => "setg" | .get _ _ _ => "get"
  | .put _ _ _ => "put" | .three w _ _ _ => w | .call _ _ _ => "call" | .callv _ _ _ => "callv" | .meth _ _ _ _ => "method" | .spawn _ _ => "spawn" | .pause => "pause" | .one w _ => w
def W25 : List Str := ["const", "move", "op", "not", "jump", "branch", "getg", "setg", "new", "get", "put", "drop", "array", "at", "setat", "len", "call", "callv", "method", "return", "say", "fail", "load", "spawn", "pause"]
def Sl (size x : Int) : Prop := 0 ≤ x ∧ x < size
/-- a row for a code of `many` rows and `size` slots -/
def Ins.Ok (many size : Int) : Ins → Prop
  | .const a d => Sl size a ∧ gd d = true ∧ d.depth ≤ 1
  | .two w a b => (w = "move" ∨ w = "not" ∨ w = "array" ∨ w = "len") ∧ Sl size a ∧ Sl size b
  | .op n a b c => strOk n = true ∧ Sl size a ∧ Sl size b ∧ Sl size c
  | .jump t => Sl many t
  | .branch a t => Sl size a ∧ Sl many t
  | .nam w a n => (w = "getg" ∨ w = "new" ∨ w = "drop") ∧ Sl size a ∧ strOk n = true
  | .setg n a => strOk n = true ∧ Sl size a
  | .get a b n => Sl size a ∧ Sl size b ∧ strOk n = true
  | .put a n b => Sl size a ∧ strOk n = true ∧ Sl size b
  | .three w a b c => (w = "at" ∨ w = "setat") ∧ Sl size a ∧ Sl size b ∧ Sl size c
  | .call a n g => Sl size a ∧ strOk n = true ∧ (∀ x ∈ g, Sl size x) ∧ g.length ≤ 5
  | .callv a b g => Sl size a ∧ Sl size b ∧ (∀ x ∈ g, Sl size x) ∧ g.length ≤ 5
  | .meth a b n g => Sl size a ∧ Sl size b ∧ strOk n = true ∧ (∀ x ∈ g, Sl size x) ∧ g.length ≤ 5
  | .spawn n g => strOk n = true ∧ (∀ x ∈ g, Sl size x) ∧ g.length ≤ 5
  | .pause => True
  | .one w a => (w = "return" ∨ w = "say" ∨ w = "fail" ∨ w = "load") ∧ Sl size a
theorem tup_ints {g : List Int} (h : g.length ≤ 5) : gd (.tuple (intsD g)) = true := by
  simp only [gd, Bool.and_eq_true]
  exact ⟨decide_eq_true (by unfold intsD; rw [List.length_map]; omega), gd_ints g⟩
theorem Ins.gd {m s : Int} {i : Ins} (h : i.Ok m s) : gd (.tuple i.data) = true := by
  have lits : ∀ w ∈ W25, strOk w = true := by decide +kernel
  have l2 : ∀ {w : Str}, (w = "move" ∨ w = "not" ∨ w = "array" ∨ w = "len") → strOk w = true := by rintro w (rfl | rfl | rfl | rfl) <;> exact lits _ (by simp [W25])
  have l3 : ∀ {w : Str}, (w = "getg" ∨ w = "new" ∨ w = "drop") → strOk w = true := by rintro w (rfl | rfl | rfl) <;> exact lits _ (by simp [W25])
  have l4 : ∀ {w : Str}, (w = "at" ∨ w = "setat") → strOk w = true := by rintro w (rfl | rfl) <;> exact lits _ (by simp [W25])
  have l5 : ∀ {w : Str}, (w = "return" ∨ w = "say" ∨ w = "fail" ∨ w = "load") → strOk w = true := by rintro w (rfl | rfl | rfl | rfl) <;> exact lits _ (by simp [W25])
  have z : ∀ {l : List PyData}, l.length ≤ 6 → gdA l = true → CM.gd (.tuple l) = true := fun a b => by
    simp only [CM.gd, Bool.and_eq_true]; exact ⟨decide_eq_true (by omega), b⟩
  cases i <;> refine z (by simp [Ins.data]) ?_ <;> simp only [Ins.data, gdA, CM.gd, Bool.and_eq_true, Bool.and_true, Bool.true_and]
  case const a d => exact ⟨lits _ (by simp [W25]), h.2.1⟩
  case two w a b => exact l2 h.1
  case op n a b c => exact ⟨lits _ (by simp [W25]), h.1⟩
  case jump t => exact lits _ (by simp [W25])
  case branch a t => exact lits _ (by simp [W25])
  case nam w a n => exact ⟨l3 h.1, h.2.2⟩
  case setg n a => exact ⟨lits _ (by simp [W25]), h.1⟩
  case get a b n => exact ⟨lits _ (by simp [W25]), h.2.2⟩
  case put a n b => exact ⟨lits _ (by simp [W25]), h.2.1⟩
  case three w a b c => exact l4 h.1
  case call a n g => exact ⟨lits _ (by simp [W25]), h.2.1, decide_eq_true (by have := h.2.2.2; simp [intsD]; omega), gd_ints g⟩
  case callv a b g => exact ⟨lits _ (by simp [W25]), decide_eq_true (by have := h.2.2.2; simp [intsD]; omega), gd_ints g⟩
  case meth a b n g => exact ⟨lits _ (by simp [W25]), h.2.2.1, decide_eq_true (by have := h.2.2.2.2; simp [intsD]; omega), gd_ints g⟩
  case spawn n g => exact ⟨lits _ (by simp [W25]), h.1, decide_eq_true (by have := h.2.2; simp [intsD]; omega), gd_ints g⟩
  case pause => exact lits _ (by simp [W25])
  case one w a => exact l5 h.1
theorem Ins.depth {m s : Int} {i : Ins} (h : i.Ok m s) : (PyData.tuple i.data).depth ≤ 2 := by
  simp only [PyData.depth]
  have z : PyData.depthAll i.data ≤ 1 := by
    refine depthAll_le fun d hd => ?_
    cases i <;> simp only [Ins.data, List.mem_cons, List.not_mem_nil, or_false] at hd
    case const a d =>
      rcases hd with e | e | e
      · rw [e]; simp [PyData.depth]
      · rw [e]; simp [PyData.depth]
      · rw [e]; exact h.2.2
    all_goals first | (rcases hd with rfl | rfl | rfl | rfl | rfl <;> simp [PyData.depth, depth_ints]) | (rcases hd with rfl | rfl | rfl | rfl <;> simp [PyData.depth, depth_ints]) | (rcases hd with rfl | rfl | rfl <;> simp [PyData.depth, depth_ints]) | (rcases hd with rfl | rfl <;> simp [PyData.depth, depth_ints]) | (subst hd; simp [PyData.depth])
  omega
/-! ### what a row does -/
/-- the slots read, in the order of the program -/
def Ins.reads : Ins → List Int
  | .const _ _ => []
  | .two w _ b => [b]
  | .op _ _ b c => [b, c]
  | .jump _ => []
  | .branch a _ => [a]
  | .nam w a _ => if w = "drop" then [a] else []
  | .setg _ a => [a]
  | .get _ b _ => [b]
  | .put a _ b => [a, b]
  | .three w a b c => if w = "at" then [b, c] else [a, b, c]
  | .call _ _ g => g
  | .callv _ b g => b :: g
  | .meth _ b _ g => b :: g
  | .spawn _ g => g
  | .pause => []
  | .one _ a => [a]
def Ins.written : Ins → Option Int
  | .const a _ => some a
  | .two _ a _ => some a
  | .op _ a _ _ => some a
  | .nam w a _ => if w = "drop" then none else some a
  | .get a _ _ => some a
  | .three w a _ _ => if w = "at" then some a else none
  | .call a _ _ => some a
  | .callv a _ _ => some a
  | .meth a _ _ _ => some a
  | _ => none
/-! ### handlers, codes -/
abbrev Hd := Int × Int × Int × Int
def hdD (h : Hd) : PyData := .tuple [.int h.1, .int h.2.1, .int h.2.2.1, .int h.2.2.2]
structure Drw where
  nm : Str
  pa : Int
  sz : Int
  rows : List Ins
  hs : List Hd
structure HdOk (many size : Int) (h : Hd) : Prop where
  to : Sl many h.2.2.1
  sl : Sl size h.2.2.2
def ends (i : Ins) : Prop := i.word = "jump" ∨ i.word = "return" ∨ i.word = "fail"
structure Drw.Ok (D : Drw) : Prop where
  nm : WordOk D.nm
  s1 : 1 ≤ D.sz
  s2 : D.sz ≤ 10
  r1 : 1 ≤ D.rows.length
  r2 : D.rows.length ≤ 30
  rows : ∀ i ∈ D.rows, i.Ok D.rows.length D.sz
  last : ∀ i, D.rows[D.rows.length - 1]? = some i → ends i
  hs : ∀ h ∈ D.hs, HdOk D.rows.length D.sz h
  hl : D.hs.length ≤ 5
/-- the places behind a row -/
def later (i : Ins) (pc : Int) : List Int := match i with
  | .jump t => [t]
  | .branch _ t => if t = pc + 1 then [pc + 1] else if t < pc + 1 then [t, pc + 1] else [pc + 1, t]
  | .one w _ => if w = "return" ∨ w = "fail" then [] else [pc + 1]
  | _ => [pc + 1]
def catcher (hs : List Hd) (pc : Int) : Option Hd := hs.find? fun h => decide (h.1 ≤ pc) && decide (pc < h.2.1)
def optV : Option Int → V
  | none => .non
  | some x => .int x
end CM
namespace CM
open PySem PySem.Spec PyProof.Rows L2 Rf
/-! ### masks -/
theorem bitAnd_nat (a b : Nat) : Builtin.bitAnd (a : Int) (b : Int) = ((a &&& b : Nat) : Int) := by
  unfold Builtin.bitAnd
  rw [decide_eq_true (by omega : (0 : Int) ≤ a), decide_eq_true (by omega : (0 : Int) ≤ b)]
  simp
theorem bitOr_nat (a b : Nat) : Builtin.bitOr (a : Int) (b : Int) = ((a ||| b : Nat) : Int) := by
  unfold Builtin.bitOr Builtin.bitAnd Builtin.bitNot
  rw [decide_eq_false (by omega : ¬ (0 : Int) ≤ -(a : Int) - 1), decide_eq_false (by omega : ¬ (0 : Int) ≤ -(b : Int) - 1)]
  have e1 : (-(-(a : Int) - 1) - 1).toNat = a := by omega
  have e2 : (-(-(b : Int) - 1) - 1).toNat = b := by omega
  show -(-(((-(-(a : Int) - 1) - 1).toNat ||| (-(-(b : Int) - 1) - 1).toNat : Nat) : Int) - 1) - 1 = _
  rw [e1, e2]; omega
theorem two_bit (s k : Nat) : (2 ^ s).testBit k = decide (s = k) := by
  rw [Nat.testBit_two_pow]
theorem and_two (m s : Nat) : m &&& 2 ^ s = if m.testBit s = true then 2 ^ s else 0 := by
  apply Nat.eq_of_testBit_eq
  intro i
  rw [Nat.testBit_and, two_bit]
  by_cases h : s = i
  · subst h
    cases e : m.testBit s <;> simp [two_bit]
  · cases e : m.testBit s <;> simp [two_bit, h]
def wo (m : Nat) (s : Int) : Nat := m - (m &&& 2 ^ s.toNat)
theorem wo_le (m : Nat) (s : Int) : wo m s ≤ m := Nat.sub_le _ _
theorem sub_bit (m s k : Nat) (h : m.testBit s = true) : (m - 2 ^ s).testBit k = (m.testBit k && !decide (s = k)) := by
  have hp : 0 < 2 ^ s := Nat.two_pow_pos s
  have e : m = 2 ^ s * (m / 2 ^ s) + m % 2 ^ s := (Nat.div_add_mod m (2 ^ s)).symm
  have hr : m % 2 ^ s < 2 ^ s := Nat.mod_lt _ hp
  have hq : (m / 2 ^ s) % 2 = 1 := by
    rw [e, Nat.testBit_two_pow_mul_add _ hr] at h
    rw [if_neg (Nat.lt_irrefl s), Nat.sub_self, Nat.testBit_zero] at h
    exact of_decide_eq_true h
  generalize m / 2 ^ s = q at e hq
  generalize m % 2 ^ s = r at e hr
  subst e
  obtain ⟨c, rfl⟩ : ∃ c, q = 2 * c + 1 := ⟨q / 2, by omega⟩
  have e2 : 2 ^ s * (2 * c + 1) + r - 2 ^ s = 2 ^ s * (2 * c) + r := by
    rw [Nat.mul_add, Nat.mul_one]; omega
  rw [e2, Nat.testBit_two_pow_mul_add _ hr, Nat.testBit_two_pow_mul_add _ hr]
  by_cases h1 : k < s
  · rw [if_pos h1, if_pos h1, decide_eq_false (by omega)]; simp
  · rw [if_neg h1, if_neg h1]
    by_cases h2 : s = k
    · subst h2
      rw [Nat.sub_self, Nat.testBit_zero, decide_eq_true rfl]
      simp
    · rw [decide_eq_false h2]
      obtain ⟨d, hd⟩ : ∃ d, k - s = d + 1 := ⟨k - s - 1, by omega⟩
      rw [hd, Nat.testBit_succ, Nat.testBit_succ]
      have e3 : 2 * c / 2 = c := by omega
      have e4 : (2 * c + 1) / 2 = c := by omega
      rw [e3, e4]; simp
theorem wo_bit (m : Nat) (s : Int) (k : Nat) : (wo m s).testBit k = (m.testBit k && !decide (s.toNat = k)) := by
  unfold wo
  rw [and_two]
  cases h : m.testBit s.toNat with
  | true => rw [if_pos rfl]; exact sub_bit m s.toNat k h
  | false =>
    rw [if_neg Bool.false_ne_true, Nat.sub_zero]
    by_cases e : s.toNat = k
    · subst e; rw [h]; rfl
    · rw [decide_eq_false e]; simp
def orL (xs : List Nat) : Nat := xs.foldl (· ||| ·) 0
theorem orL_go (xs : List Nat) : ∀ (a k : Nat), (xs.foldl (· ||| ·) a).testBit k = (a.testBit k || xs.any fun x => x.testBit k) := by
  induction xs with
  | nil => intro a k; simp
  | cons x xs ih => intro a k; rw [List.foldl_cons, ih, Nat.testBit_or, List.any_cons, Bool.or_assoc]
theorem orL_bit (xs : List Nat) (k : Nat) : (orL xs).testBit k = xs.any fun x => x.testBit k := by
  unfold orL; rw [orL_go]; simp
def maskL (xs : List Int) : Nat := orL (xs.map fun x => 2 ^ x.toNat)
theorem maskL_bit (xs : List Int) (k : Nat) : (maskL xs).testBit k = xs.any fun x => decide (x.toNat = k) := by
  unfold maskL
  rw [orL_bit, List.any_map]
  congr 1
  funext x
  exact two_bit _ _
theorem lt_of_bits {m n : Nat} (h : ∀ k, m.testBit k = true → k < n) : m < 2 ^ n := Nat.lt_pow_two_of_testBit m fun i hi => by
  cases e : m.testBit i with
  | false => rfl
  | true => have := h i e; omega
theorem bits_lt {m n k : Nat} (h : m < 2 ^ n) (e : m.testBit k = true) : k < n := by
  by_cases c : k < n
  · exact c
  · have : m < 2 ^ k := Nat.lt_of_lt_of_le h (Nat.pow_le_pow_right (by decide) (by omega))
    rw [Nat.testBit_lt_two_pow this] at e
    cases e
/-- the members of a mask, ascending -/
def bits (m : Nat) : List Int := ((List.range 10).filter fun k => m.testBit k).map fun k : Nat => (k : Int)
theorem filter_range {f : Nat → Bool} {n : Nat} (h : ∀ i, n ≤ i → f i = false) : ∀ k, (List.range (n + k)).filter f = (List.range n).filter f
  | 0 => rfl
  | k + 1 => by
    rw [← Nat.add_assoc, List.range_succ, List.filter_append, filter_range h k]
    simp [h (n + k) (by omega)]
theorem filter_two {f : Nat → Bool} {n k : Nat} (h : ∀ i, n ≤ i → f i = false) (h' : ∀ i, k ≤ i → f i = false) : (List.range n).filter f = (List.range k).filter f := by
  rcases Nat.le_total n k with l | l
  · have e : k = n + (k - n) := by omega
    rw [e, filter_range h]
  · have e : n = k + (n - k) := by omega
    rw [e, filter_range h']
theorem no_bit {m n : Nat} (h : m < 2 ^ n) : ∀ i, n ≤ i → m.testBit i = false := fun i hi => by
  cases e : m.testBit i with
  | false => rfl
  | true => have := bits_lt h e; omega
theorem bits_eq {m n : Nat} {f : Nat → Bool} (h : m < 1024) (hf : ∀ k, k < n → f k = m.testBit k) (hn : m < 2 ^ n) : ((List.range n).filter f).map (fun k : Nat => (k : Int)) = bits m := by
  unfold bits
  congr 1
  rw [← filter_two (f := fun k => m.testBit k) (no_bit hn) (no_bit (n := 10) h)]
  exact List.filter_congr fun k hk => hf k (List.mem_range.1 hk)
theorem mem_bits {m : Nat} {x : Int} (h : m < 1024) : x ∈ bits m ↔ 0 ≤ x ∧ m.testBit x.toNat = true := by
  unfold bits
  rw [List.mem_map]
  constructor
  · rintro ⟨k, hk, rfl⟩
    exact ⟨by omega, by simpa using (List.mem_filter.1 hk).2⟩
  · rintro ⟨h0, h1⟩
    refine ⟨x.toNat, List.mem_filter.2 ⟨List.mem_range.2 (bits_lt (n := 10) h h1), by simpa using h1⟩, by omega⟩
theorem len_bits (m : Nat) : (bits m).length ≤ 10 := by
  unfold bits
  rw [List.length_map]
  exact Nat.le_trans (List.length_filter_le _ _) (by simp)
theorem intBits_lt (m : Nat) : m < 2 ^ Builtin.Int.intBits (m : Int) := by
  unfold Builtin.Int.intBits
  by_cases h : m = 0
  · subst h; decide
  · have e : ((m : Int) == 0) = false := by simp; exact h
    rw [e, if_neg Bool.false_ne_true]
    exact Nat.lt_log2_self
theorem intBits_le {m : Nat} (h : m < 1024) : Builtin.Int.intBits (m : Int) ≤ 10 := by
  unfold Builtin.Int.intBits
  by_cases e : m = 0
  · subst e; decide
  · have e2 : ((m : Int) == 0) = false := by simp; exact e
    rw [e2, if_neg Bool.false_ne_true]
    have : (m : Int).natAbs.log2 < 10 := by
      show m.log2 < 10
      exact (Nat.log2_lt e).2 h
    omega
/-! ### the equations -/
def st (ms : List Nat) (x : Int) : Nat := ms.getD x.toNat 0
def waitM (D : Drw) (ms : List Nat) (j : Nat) : Nat := match D.rows[j]? with
  | none => 0
  | some i =>
    let f := orL ((later i j).map (st ms))
    let g := match i.written with | none => f | some s => wo f s
    match catcher D.hs j with | none => g | some h => g ||| wo (st ms h.2.2.1) h.2.2.2
def upM (D : Drw) (ms : List Nat) (j : Nat) : Nat := match D.rows[j]? with
  | none => 0
  | some i => maskL i.reads ||| waitM D ms j
def waitB (D : Drw) (ms : List Nat) (i : Ins) (j k : Nat) : Bool :=
  (((later i j).any fun x => (st ms x).testBit k) && !decide (i.written = some (k : Int))) || match catcher D.hs j with | none => false | some h => (st ms h.2.2.1).testBit k && !decide (h.2.2.2 = (k : Int))
theorem toNat_dec {s : Int} (h : 0 ≤ s) (k : Nat) : decide (s.toNat = k) = decide (s = (k : Int)) := by
  by_cases e : s = (k : Int)
  · subst e; simp
  · rw [decide_eq_false e, decide_eq_false (by omega)]
theorem waitM_bit {D : Drw} {ms : List Nat} {i : Ins} {j : Nat} (hi : D.rows[j]? = some i) (hw : ∀ s, i.written = some s → 0 ≤ s) (hc : ∀ h ∈ D.hs, 0 ≤ h.2.2.2) (k : Nat) : (waitM D ms j).testBit k = waitB D ms i j k := by
  unfold waitM waitB
  rw [hi]
  have e1 : (match i.written with | none => orL ((later i j).map (st ms)) | some s => wo (orL ((later i j).map (st ms))) s : Nat).testBit k = (((later i j).any fun x => (st ms x).testBit k) && !decide (i.written = some (k : Int))) := by
    cases e : i.written with
    | none => simp [orL_bit, List.any_map, Function.comp_def]
    | some s =>
      show (wo _ s).testBit k = _
      rw [wo_bit, orL_bit, List.any_map, toNat_dec (hw s e)]
      simp [Function.comp_def]
  cases e : catcher D.hs j with
  | none =>
    show (match i.written with | none => orL ((later i j).map (st ms)) | some s => wo (orL ((later i j).map (st ms))) s : Nat).testBit k = _
    rw [e1]; simp
  | some h =>
    show ((match i.written with | none => orL ((later i j).map (st ms)) | some s => wo (orL ((later i j).map (st ms))) s : Nat) ||| wo (st ms h.2.2.1) h.2.2.2).testBit k = _
    rw [Nat.testBit_or, e1, wo_bit, toNat_dec (hc h (List.mem_of_find?_eq_some e))]
def step (D : Drw) (ms : List Nat) (j : Nat) : List Nat := ms.set j (upM D ms j)
def part (D : Drw) (ms : List Nat) : Nat → List Nat
  | 0 => ms
  | k + 1 => step D (part D ms k) (D.rows.length - 1 - k)
def round (D : Drw) (ms : List Nat) : List Nat := part D ms D.rows.length
def iter (D : Drw) : Nat → List Nat
  | 0 => List.replicate D.rows.length 0
  | k + 1 => round D (iter D k)
def solM (D : Drw) : List Nat := iter D 301
def cnt (m : Nat) : Nat := (bits m).length
def total (ms : List Nat) : Nat := (ms.map cnt).sum
/-- below and beside -/
structure Fine (D : Drw) (ms : List Nat) : Prop where
  len : ms.length = D.rows.length
  lt : ∀ m ∈ ms, m < 2 ^ D.sz.toNat
  inc : ∀ j, j < D.rows.length → ∀ k, (ms.getD j 0).testBit k = true → (upM D ms j).testBit k = true
def Sub (ms ms' : List Nat) : Prop := ∀ j k, (ms.getD j 0).testBit k = true → (ms'.getD j 0).testBit k = true
theorem written_ok {m s : Int} {i : Ins} (h : i.Ok m s) : ∀ x, i.written = some x → Sl s x := by
  intro x e
  cases i <;> simp only [Ins.written] at e
  case const a d => cases e; exact h.1
  case two w a b => cases e; exact h.2.1
  case op n a b c => cases e; exact h.2.1
  case nam w a n =>
    split at e
    · cases e
    · cases e; exact h.2.1
  case get a b n => cases e; exact h.1
  case three w a b c =>
    split at e
    · cases e; exact h.2.1
    · cases e
  case call a n g => cases e; exact h.1
  case callv a b g => cases e; exact h.1
  case meth a b n g => cases e; exact h.1
  all_goals cases e
theorem reads_ok {m s : Int} {i : Ins} (h : i.Ok m s) : ∀ x ∈ i.reads, Sl s x := by
  intro x e
  cases i <;> simp only [Ins.reads, List.mem_cons, List.not_mem_nil, or_false] at e
  case two w a b => subst e; exact h.2.2
  case op n a b c =>
    rcases e with rfl | rfl
    · exact h.2.2.1
    · exact h.2.2.2
  case branch a t => subst e; exact h.1
  case nam w a n =>
    split at e
    · simp at e; subst e; exact h.2.1
    · simp at e
  case setg n a => subst e; exact h.2
  case get a b n => subst e; exact h.2.1
  case put a n b =>
    rcases e with rfl | rfl
    · exact h.1
    · exact h.2.2
  case three w a b c =>
    split at e
    · simp at e
      rcases e with rfl | rfl
      · exact h.2.2.1
      · exact h.2.2.2
    · simp at e
      rcases e with rfl | rfl | rfl
      · exact h.2.1
      · exact h.2.2.1
      · exact h.2.2.2
  case call a n g => exact h.2.2.1 x e
  case callv a b g =>
    rcases e with rfl | e
    · exact h.2.1
    · exact h.2.2.1 x e
  case meth a b n g =>
    rcases e with rfl | e
    · exact h.2.1
    · exact h.2.2.2.1 x e
  case spawn n g => exact h.2.1 x e
  case one w a => subst e; exact h.2
theorem Drw.Ok.row {D : Drw} (o : D.Ok) {j : Nat} {i : Ins} (h : D.rows[j]? = some i) : i.Ok D.rows.length D.sz := o.rows i (List.mem_of_getElem? h)
theorem Drw.Ok.wbit {D : Drw} (o : D.Ok) {ms : List Nat} {i : Ins} {j : Nat} (hi : D.rows[j]? = some i) (k : Nat) : (waitM D ms j).testBit k = waitB D ms i j k :=
  waitM_bit hi (fun s e => (written_ok (o.row hi) s e).1) (fun h m => (o.hs h m).sl.1) k
theorem waitB_mono {D : Drw} {ms ms' : List Nat} (s : Sub ms ms') {i : Ins} {j k : Nat} (h : waitB D ms i j k = true) : waitB D ms' i j k = true := by
  unfold waitB at *
  rw [Bool.or_eq_true] at *
  rcases h with h | h
  · left
    rw [Bool.and_eq_true] at *
    refine ⟨?_, h.2⟩
    obtain ⟨x, hx, e⟩ := List.any_eq_true.1 h.1
    exact List.any_eq_true.2 ⟨x, hx, s _ _ e⟩
  · right
    cases e : catcher D.hs j with
    | none => rw [e] at h; cases h
    | some y =>
      rw [e] at h
      dsimp only at h ⊢
      rw [Bool.and_eq_true] at *
      exact ⟨s _ _ h.1, h.2⟩
theorem upM_bit {D : Drw} (o : D.Ok) {ms : List Nat} {i : Ins} {j : Nat} (hi : D.rows[j]? = some i) (k : Nat) : (upM D ms j).testBit k = ((i.reads.any fun x => decide (x.toNat = k)) || waitB D ms i j k) := by
  have e : upM D ms j = maskL i.reads ||| waitM D ms j := by unfold upM; rw [hi]
  rw [e, Nat.testBit_or, maskL_bit, o.wbit hi]
theorem upM_mono {D : Drw} (o : D.Ok) {ms ms' : List Nat} (s : Sub ms ms') {j k : Nat} (hj : j < D.rows.length) (h : (upM D ms j).testBit k = true) : (upM D ms' j).testBit k = true := by
  have hi : D.rows[j]? = some D.rows[j] := List.getElem?_eq_getElem hj
  rw [upM_bit o hi, Bool.or_eq_true] at *
  exact h.imp id (waitB_mono s)
theorem st_lt {D : Drw} {ms : List Nat} (h : ∀ m ∈ ms, m < 2 ^ D.sz.toNat) (x : Int) : st ms x < 2 ^ D.sz.toNat := by
  unfold st
  rw [List.getD_eq_getElem?_getD]
  cases e : ms[x.toNat]? with
  | none => exact Nat.two_pow_pos _
  | some m => exact h m (List.mem_of_getElem? e)
theorem waitM_lt {D : Drw} (o : D.Ok) {ms : List Nat} (h : ∀ m ∈ ms, m < 2 ^ D.sz.toNat) {j : Nat} (hj : j < D.rows.length) : waitM D ms j < 2 ^ D.sz.toNat := by
  have hi : D.rows[j]? = some D.rows[j] := List.getElem?_eq_getElem hj
  refine lt_of_bits fun k e => ?_
  rw [o.wbit hi] at e
  unfold waitB at e
  rw [Bool.or_eq_true] at e
  rcases e with e | e
  · rw [Bool.and_eq_true] at e
    obtain ⟨x, _, e⟩ := List.any_eq_true.1 e.1
    exact bits_lt (st_lt h x) e
  · cases e2 : catcher D.hs j with
    | none => rw [e2] at e; cases e
    | some y =>
      rw [e2] at e
      dsimp only at e
      rw [Bool.and_eq_true] at e
      exact bits_lt (st_lt h _) e.1
theorem upM_lt {D : Drw} (o : D.Ok) {ms : List Nat} (h : ∀ m ∈ ms, m < 2 ^ D.sz.toNat) {j : Nat} (hj : j < D.rows.length) : upM D ms j < 2 ^ D.sz.toNat := by
  have hi : D.rows[j]? = some D.rows[j] := List.getElem?_eq_getElem hj
  have e : upM D ms j = maskL D.rows[j].reads ||| waitM D ms j := by unfold upM; rw [hi]
  rw [e]
  refine Nat.or_lt_two_pow (lt_of_bits fun k e => ?_) (waitM_lt o h hj)
  rw [maskL_bit] at e
  obtain ⟨x, hx, e⟩ := List.any_eq_true.1 e
  have := reads_ok (o.row hi) x hx
  have e := of_decide_eq_true e
  unfold Sl at this; omega
theorem getD_set (ms : List Nat) (j k v : Nat) : (ms.set j v).getD k 0 = if j = k ∧ j < ms.length then v else ms.getD k 0 := by
  simp only [List.getD_eq_getElem?_getD, List.getElem?_set]
  by_cases h : j = k
  · subst h
    by_cases h2 : j < ms.length
    · simp [h2]
    · simp [h2]
  · simp [h]
theorem step_fine {D : Drw} (o : D.Ok) {ms : List Nat} (f : Fine D ms) {j : Nat} (hj : j < D.rows.length) : Fine D (step D ms j) ∧ Sub ms (step D ms j) := by
  have hs : Sub ms (step D ms j) := fun k b e => by
    unfold step
    rw [getD_set]
    split
    · rename_i c; obtain ⟨rfl, _⟩ := c; exact f.inc j hj b e
    · exact e
  refine ⟨⟨by unfold step; rw [List.length_set]; exact f.len, fun m hm => ?_, fun k hk b e => ?_⟩, hs⟩
  · rcases List.mem_or_eq_of_mem_set hm with h | h
    · exact f.lt m h
    · rw [h]; exact upM_lt o f.lt hj
  · unfold step at e
    rw [getD_set] at e
    split at e
    · rename_i c; obtain ⟨rfl, _⟩ := c; exact upM_mono o hs hj e
    · exact upM_mono o hs hk (f.inc k hk b e)
theorem Sub.refl (ms : List Nat) : Sub ms ms := fun _ _ e => e
theorem Sub.trans {a b c : List Nat} (h : Sub a b) (h' : Sub b c) : Sub a c := fun j k e => h' j k (h j k e)
theorem part_fine {D : Drw} (o : D.Ok) {ms : List Nat} (f : Fine D ms) : ∀ k, k ≤ D.rows.length → Fine D (part D ms k) ∧ Sub ms (part D ms k)
  | 0, _ => ⟨f, Sub.refl _⟩
  | k + 1, h => by
    obtain ⟨a, b⟩ := part_fine o f k (by omega)
    obtain ⟨c, d⟩ := step_fine o a (j := D.rows.length - 1 - k) (by omega)
    exact ⟨c, b.trans d⟩
theorem part_sub {D : Drw} (o : D.Ok) {ms : List Nat} (f : Fine D ms) : ∀ k d, k + d ≤ D.rows.length → Sub (part D ms k) (part D ms (k + d))
  | k, 0, _ => Sub.refl _
  | k, d + 1, h => (part_sub o f k d (by omega)).trans (step_fine o (part_fine o f (k + d) (by omega)).1 (j := D.rows.length - 1 - (k + d)) (by omega)).2
theorem iter_fine {D : Drw} (o : D.Ok) : ∀ k, Fine D (iter D k)
  | 0 => ⟨by simp [iter], fun m hm => by have := List.eq_of_mem_replicate (show m ∈ List.replicate D.rows.length 0 from hm); subst this; exact Nat.two_pow_pos _, fun j _ k e => by
      exfalso
      have : (iter D 0).getD j 0 = 0 := by
        unfold iter
        rw [List.getD_eq_getElem?_getD, List.getElem?_replicate]; split <;> rfl
      rw [this] at e; simp at e⟩
  | k + 1 => (part_fine o (iter_fine o k) _ (Nat.le_refl _)).1
/-! ### counts -/
theorem countP_le {p q : Nat → Bool} : ∀ {l : List Nat}, (∀ x ∈ l, p x = true → q x = true) → l.countP p ≤ l.countP q ∧ (l.countP p = l.countP q → ∀ x ∈ l, p x = q x)
  | [], _ => ⟨Nat.le_refl _, fun _ x h => by simp at h⟩
  | a :: l, h => by
    obtain ⟨i1, i2⟩ := countP_le (l := l) fun x hx => h x (by simp [hx])
    have ha := h a (by simp)
    rw [List.countP_cons, List.countP_cons]
    cases e1 : p a <;> cases e2 : q a
    · simp; exact ⟨i1, fun e => ⟨by rw [e1, e2], i2 e⟩⟩
    · simp; exact ⟨by omega, fun e => by omega⟩
    · rw [ha e1] at e2; cases e2
    · simp; exact ⟨i1, fun e => ⟨by rw [e1, e2], i2 e⟩⟩
theorem cnt_eq (m : Nat) : cnt m = (List.range 10).countP fun k => m.testBit k := by
  unfold cnt bits
  rw [List.length_map, List.countP_eq_length_filter]
theorem cnt_mono {m m' : Nat} (h : ∀ k, m.testBit k = true → m'.testBit k = true) : cnt m ≤ cnt m' := by
  rw [cnt_eq, cnt_eq]; exact (countP_le fun x _ => h x).1
theorem cnt_same {m m' : Nat} (h : ∀ k, m.testBit k = true → m'.testBit k = true) (l : m < 1024) (l' : m' < 1024) (e : cnt m = cnt m') : m = m' := by
  rw [cnt_eq, cnt_eq] at e
  have z := (countP_le (l := List.range 10) fun x _ => h x).2 e
  apply Nat.eq_of_testBit_eq
  intro k
  by_cases hk : k < 10
  · exact z k (List.mem_range.2 hk)
  · rw [no_bit (n := 10) l k (by omega), no_bit (n := 10) l' k (by omega)]
theorem total_mono : ∀ {a b : List Nat}, a.length = b.length → Sub a b → total a ≤ total b
  | [], [], _, _ => Nat.le_refl _
  | x :: a, y :: b, h, s => by
    have h1 := total_mono (a := a) (b := b) (by simpa using h) (fun j k e => by simpa using s (j + 1) k (by simpa using e))
    have h2 : cnt x ≤ cnt y := cnt_mono fun k e => by simpa using s 0 k (by simpa using e)
    unfold total at *
    simp only [List.map_cons, List.sum_cons]; omega
theorem total_same : ∀ {a b : List Nat}, a.length = b.length → Sub a b → (∀ m ∈ a, m < 1024) → (∀ m ∈ b, m < 1024) → total a = total b → a = b
  | [], [], _, _, _, _, _ => rfl
  | x :: a, y :: b, h, s, l, l', e => by
    have s1 : Sub a b := fun j k e => by simpa using s (j + 1) k (by simpa using e)
    have s2 : ∀ k, x.testBit k = true → y.testBit k = true := fun k e => by simpa using s 0 k (by simpa using e)
    have h1 := total_mono (a := a) (b := b) (by simpa using h) s1
    have h2 : cnt x ≤ cnt y := cnt_mono s2
    unfold total at e h1
    simp only [List.map_cons, List.sum_cons] at e
    have e1 := cnt_same s2 (l x (by simp)) (l' y (by simp)) (by omega)
    have e2 := total_same (a := a) (b := b) (by simpa using h) s1 (fun m hm => l m (by simp [hm])) (fun m hm => l' m (by simp [hm])) (by unfold total; omega)
    rw [e1, e2]
theorem cnt_le {D : Drw} (o : D.Ok) {m : Nat} (h : m < 2 ^ D.sz.toNat) : cnt m ≤ D.sz.toNat := by
  have l10 : D.sz.toNat ≤ 10 := by have := o.s2; omega
  have e := filter_two (f := fun k => m.testBit k) (no_bit h) (no_bit (n := 10) (m := m) (Nat.lt_of_lt_of_le h (Nat.pow_le_pow_right (by decide) l10)))
  unfold cnt bits
  rw [List.length_map, ← e]
  exact Nat.le_trans (List.length_filter_le _ _) (by simp)
theorem lt1024 {D : Drw} (o : D.Ok) {m : Nat} (h : m < 2 ^ D.sz.toNat) : m < 1024 := Nat.lt_of_lt_of_le h (show 2 ^ D.sz.toNat ≤ 2 ^ 10 from Nat.pow_le_pow_right (by decide) (by have := o.s2; omega))
theorem total_le {D : Drw} (o : D.Ok) {ms : List Nat} (f : Fine D ms) : total ms ≤ D.rows.length * D.sz.toNat := by
  rw [← f.len]
  have := f.lt
  clear f
  induction ms with
  | nil => simp [total]
  | cons m ms ih =>
    have h1 := ih fun x hx => this x (by simp [hx])
    have h2 := cnt_le o (this m (by simp))
    unfold total at *
    rw [List.map_cons, List.sum_cons, List.length_cons, Nat.succ_mul]; omega
theorem round_fix {D : Drw} (o : D.Ok) {ms : List Nat} (f : Fine D ms) (e : total (round D ms) = total ms) : round D ms = ms := by
  obtain ⟨a, b⟩ := part_fine o f D.rows.length (Nat.le_refl _)
  exact (total_same (by rw [f.len]; exact a.len.symm) b (fun m hm => lt1024 o (f.lt m hm)) (fun m hm => lt1024 o (a.lt m hm)) e.symm).symm
theorem iter_stay {D : Drw} {k : Nat} (h : round D (iter D k) = iter D k) : ∀ d, iter D (k + d) = iter D k
  | 0 => rfl
  | d + 1 => by
    show round D (iter D (k + d)) = _
    rw [iter_stay h d, h]
theorem total_grow {D : Drw} (o : D.Ok) : ∀ k, (∀ j, j < k → round D (iter D j) ≠ iter D j) → k ≤ total (iter D k)
  | 0, _ => Nat.zero_le _
  | k + 1, h => by
    have h1 := total_grow o k fun j hj => h j (by omega)
    have f := iter_fine o k
    obtain ⟨a, b⟩ := part_fine o f D.rows.length (Nat.le_refl _)
    have h2 : total (iter D k) ≤ total (iter D (k + 1)) := total_mono (by rw [f.len]; exact a.len.symm) b
    have h3 : total (iter D (k + 1)) ≠ total (iter D k) := fun e => h k (by omega) (round_fix o f e)
    omega
theorem fix_sol {D : Drw} (o : D.Ok) {k : Nat} (h : round D (iter D k) = iter D k) : iter D k = solM D := by
  rcases Nat.le_total k 301 with l | l
  · have e : 301 = k + (301 - k) := by omega
    unfold solM
    rw [e, iter_stay h]
  · -- some j ≤ 300 is fixed
    by_cases q : ∃ j, j < 301 ∧ round D (iter D j) = iter D j
    · obtain ⟨j, hj, e⟩ := q
      have e1 : k = j + (k - j) := by omega
      have e2 : 301 = j + (301 - j) := by omega
      unfold solM
      rw [e1, iter_stay e, e2, iter_stay e]
    · exfalso
      have g := total_grow o 301 fun j hj e => q ⟨j, hj, e⟩
      have t := total_le o (iter_fine o 301)
      have b1 := o.r2
      have b2 := o.s2
      have : D.rows.length * D.sz.toNat ≤ 30 * 10 := Nat.mul_le_mul b1 (by omega)
      omega
theorem sol_fine {D : Drw} (o : D.Ok) : Fine D (solM D) := iter_fine o 301
/-- many rounds are enough -/
theorem iter_end {D : Drw} (o : D.Ok) {k : Nat} (h : D.rows.length * D.sz.toNat < k) : iter D k = solM D := by
  by_cases q : ∃ j, j < k ∧ round D (iter D j) = iter D j
  · obtain ⟨j, hj, e⟩ := q
    have e1 : k = j + (k - j) := by omega
    rw [e1, iter_stay e, fix_sol o e]
  · exfalso
    have g := total_grow o k fun j hj e => q ⟨j, hj, e⟩
    have t := total_le o (iter_fine o k)
    omega
end CM
namespace CM
open PySem PySem.Spec PyProof.Rows L2 Rf
/-- ascending lists of the same members -/
theorem asc_eq : ∀ {a b : List Int}, a.Pairwise (· < ·) → b.Pairwise (· < ·) → (∀ k, k ∈ a ↔ k ∈ b) → a = b
  | [], [], _, _, _ => rfl
  | [], y :: b, _, _, m => absurd ((m y).2 (by simp)) (by simp)
  | x :: a, [], _, _, m => absurd ((m x).1 (by simp)) (by simp)
  | x :: a, y :: b, ha, hb, m => by
    rw [List.pairwise_cons] at ha hb
    have h1 := (m x).1 (by simp)
    have h2 := (m y).2 (by simp)
    have e : x = y := by
      rcases List.mem_cons.1 h1 with e | h1
      · exact e
      · rcases List.mem_cons.1 h2 with e | h2
        · exact e.symm
        · have := hb.1 _ h1
          have := ha.1 _ h2
          omega
    subst e
    rw [asc_eq ha.2 hb.2 fun k => ?_]
    have := m k
    rw [List.mem_cons, List.mem_cons] at this
    constructor
    · intro h
      rcases this.1 (Or.inr h) with e | h'
      · subst e; have := ha.1 _ h; omega
      · exact h'
    · intro h
      rcases this.2 (Or.inr h) with e | h'
      · subst e; have := hb.1 _ h; omega
      · exact h'
theorem asc_nat {f : Nat → Bool} (n : Nat) : (((List.range n).filter f).map fun k : Nat => (k : Int)).Pairwise (· < ·) := by
  rw [List.pairwise_map]
  refine List.Pairwise.filter _ (List.Pairwise.imp (fun h => ?_) List.pairwise_lt_range)
  omega
theorem bits_asc (m : Nat) : (bits m).Pairwise (· < ·) := asc_nat 10
/-- the slots read, ascending -/
def usesOf (i : Ins) : List Int := bits (maskL i.reads)
theorem reads_lt {m s : Int} {i : Ins} (ok : i.Ok m s) (h : s ≤ 10) : maskL i.reads < 1024 := by
  refine lt_of_bits (n := 10) fun k e => ?_
  rw [maskL_bit] at e
  obtain ⟨x, hx, e⟩ := List.any_eq_true.1 e
  have := reads_ok ok x hx
  have e := of_decide_eq_true e
  unfold Sl at this; omega
theorem mem_uses {m s : Int} {i : Ins} (ok : i.Ok m s) (h : s ≤ 10) {x : Int} : x ∈ usesOf i ↔ x ∈ i.reads := by
  unfold usesOf
  rw [mem_bits (reads_lt ok h), maskL_bit, List.any_eq_true]
  constructor
  · rintro ⟨h0, y, hy, e⟩
    have h1 := (reads_ok ok y hy).1
    have e := of_decide_eq_true e
    have : x = y := by omega
    rw [this]; exact hy
  · intro hx
    exact ⟨(reads_ok ok x hx).1, x, hx, by simp⟩
/-- jumps to a place -/
def jumps (p : Int) : Ins → Bool
  | .jump t => decide (t = p)
  | _ => false
/-- the places to which a later jump goes -/
def headsOf (rows : List Ins) : List Int := ((List.range rows.length).filter fun p => (rows.drop p).any (jumps (p : Int))).map fun p : Nat => (p : Int)
theorem eqv_jump {m s : Int} {i : Ins} (ok : i.Ok m s) (p : Int) : PyData.eqv (.tuple i.data) (.tuple [.str "jump", .int p]) = jumps p i := by
  cases i <;> simp only [Ins.data, PyData.eqv, PyData.eqvAll, jumps, Bool.and_false, Bool.false_and, Bool.and_true]
  case jump t =>
    have e : (("jump" : Str) == ("jump" : Str)) = true := by decide +kernel
    rw [e, Bool.true_and]
    by_cases h : t = p
    · subst h; simp
    · simp [h]
  case one w a =>
    obtain ⟨e, _⟩ := ok
    have : (w == ("jump" : Str)) = false := by rcases e with rfl | rfl | rfl | rfl <;> decide +kernel
    rw [this, Bool.false_and]
theorem mem_heads {rows : List Ins} {x : Int} : x ∈ headsOf rows ↔ 0 ≤ x ∧ ∃ pc : Nat, rows[pc]? = some (Ins.jump x) ∧ x ≤ (pc : Int) := by
  unfold headsOf
  rw [List.mem_map]
  constructor
  · rintro ⟨p, hp, rfl⟩
    have hp := (List.mem_filter.1 hp).2
    obtain ⟨i, hi, e⟩ := List.any_eq_true.1 hp
    obtain ⟨j, hj⟩ := List.mem_iff_getElem?.1 hi
    rw [List.getElem?_drop] at hj
    refine ⟨by omega, p + j, ?_, by omega⟩
    cases i <;> simp only [jumps] at e <;> try cases e
    have e := of_decide_eq_true e
    rw [hj, e]
  · rintro ⟨h0, pc, hpc, hle⟩
    have hlt : pc < rows.length := (List.getElem?_eq_some_iff.mp hpc).1
    refine ⟨x.toNat, List.mem_filter.2 ⟨List.mem_range.2 (by omega), List.any_eq_true.2 ⟨.jump x, ?_, ?_⟩⟩, by omega⟩
    · refine List.mem_iff_getElem?.2 ⟨pc - x.toNat, ?_⟩
      rw [List.getElem?_drop]
      have : x.toNat + (pc - x.toNat) = pc := by omega
      rw [this]; exact hpc
    · simp only [jumps]; exact decide_eq_true (by omega)
theorem heads_asc (rows : List Ins) : (headsOf rows).Pairwise (· < ·) := asc_nat _
end CM
namespace LW
open PySem PySem.Spec PyProof.Rows L2 Rf

def top (i : Nat) : Stmt := PySem.Challenge.pw_reforge_k09_code_queries.main.body.getD i (.Pass ⟨0, 0, 0, 0⟩)
abbrev s_handler_at : Stmt := top 4
abbrev s_slots_read : Stmt := top 5
abbrev s_uses : Stmt := top 6
abbrev s_target : Stmt := top 7
abbrev s_following : Stmt := top 8
abbrev s_heads : Stmt := top 9
abbrev s_Code_init : Stmt := inClass (top 11) 0
abbrev s_told_code : Stmt := top 12
abbrev s_code_of : Stmt := top 13
abbrev s_law_box : Stmt := top 15
abbrev s_law_draw : Stmt := top 16
abbrev s_law_reserved : Stmt := top 17
abbrev s_law_word : Stmt := top 18
abbrev s_law_value : Stmt := top 19
abbrev s_law_row : Stmt := top 20
abbrev s_law_words : Stmt := top 21
abbrev s_law_drawn : Stmt := top 22
abbrev s_law_read : Stmt := top 23
abbrev s_law_written : Stmt := top 24
abbrev s_law_later : Stmt := top 25
abbrev s_law_catcher : Stmt := top 26
abbrev s_law_same : Stmt := top 27
abbrev s_law_row_agrees : Stmt := top 28
abbrev s_law_loops : Stmt := top 29
abbrev s_law_has : Stmt := top 30
abbrev s_law : Stmt := top 31
abbrev n_handler_at : List Str := ["code", "pc", "handler"]
theorem sc_handler_at : FnScope n_handler_at ["code", "pc"] (defScope s_handler_at) := ⟨rfl, rfl, rfl, by decide +kernel, rfl, by decide +kernel, by decide +kernel⟩
abbrev n_slots_read : List Str := ["row", "found", "index"]
theorem sc_slots_read : FnScope n_slots_read ["row"] (defScope s_slots_read) := ⟨rfl, rfl, rfl, by decide +kernel, rfl, by decide +kernel, by decide +kernel⟩
abbrev n_uses : List Str := ["row"]
theorem sc_uses : FnScope n_uses ["row"] (defScope s_uses) := ⟨rfl, rfl, rfl, by decide +kernel, rfl, by decide +kernel, by decide +kernel⟩
abbrev n_target : List Str := ["row", "index"]
theorem sc_target : FnScope n_target ["row"] (defScope s_target) := ⟨rfl, rfl, rfl, by decide +kernel, rfl, by decide +kernel, by decide +kernel⟩
abbrev n_following : List Str := ["code", "pc", "row"]
theorem sc_following : FnScope n_following ["code", "pc"] (defScope s_following) := ⟨rfl, rfl, rfl, by decide +kernel, rfl, by decide +kernel, by decide +kernel⟩
abbrev n_heads : List Str := ["code", "pc", "row"]
theorem sc_heads : FnScope n_heads ["code"] (defScope s_heads) := ⟨rfl, rfl, rfl, by decide +kernel, rfl, by decide +kernel, by decide +kernel⟩
abbrev n_Code_init : List Str := ["self", "name", "params", "size", "rows", "handlers"]
theorem sc_Code_init : FnScope n_Code_init ["self", "name", "params", "size", "rows", "handlers"] (defScope s_Code_init) := ⟨rfl, rfl, rfl, by decide +kernel, rfl, by decide +kernel, by decide +kernel⟩
abbrev n_told_code : List Str := ["code"]
theorem sc_told_code : FnScope n_told_code ["code"] (defScope s_told_code) := ⟨rfl, rfl, rfl, by decide +kernel, rfl, by decide +kernel, by decide +kernel⟩
abbrev n_code_of : List Str := ["told", "name", "params", "size", "rows", "handlers"]
theorem sc_code_of : FnScope n_code_of ["told"] (defScope s_code_of) := ⟨rfl, rfl, rfl, by decide +kernel, rfl, by decide +kernel, by decide +kernel⟩
abbrev n_law_box : List Str := ["script", "cells", "lesser", "cell"]
theorem sc_law_box : FnScope n_law_box ["script"] (defScope s_law_box) := ⟨rfl, rfl, rfl, by decide +kernel, rfl, by decide +kernel, by decide +kernel⟩
abbrev n_law_draw : List Str := ["box", "many", "great", "cell", "lesser", "fresh"]
theorem sc_law_draw : FnScope n_law_draw ["box", "many"] (defScope s_law_draw) := ⟨rfl, rfl, rfl, by decide +kernel, rfl, by decide +kernel, by decide +kernel⟩
abbrev n_law_reserved : List Str := ["words"]
theorem sc_law_reserved : FnScope n_law_reserved [] (defScope s_law_reserved) := ⟨rfl, rfl, rfl, by decide +kernel, rfl, by decide +kernel, by decide +kernel⟩
abbrev n_law_word : List Str := ["box", "known", "letters", "pick", "size", "word", "elder", "k"]
theorem sc_law_word : FnScope n_law_word ["box", "known"] (defScope s_law_word) := ⟨rfl, rfl, rfl, by decide +kernel, rfl, by decide +kernel, by decide +kernel⟩
abbrev n_law_value : List Str := ["box", "known", "pick"]
theorem sc_law_value : FnScope n_law_value ["box", "known"] (defScope s_law_value) := ⟨rfl, rfl, rfl, by decide +kernel, rfl, by decide +kernel, by decide +kernel⟩
abbrev n_law_row : List Str := ["box", "word", "many", "size", "known", "a", "b", "c", "name", "given", "names", "k"]
theorem sc_law_row : FnScope n_law_row ["box", "word", "many", "size", "known"] (defScope s_law_row) := ⟨rfl, rfl, rfl, by decide +kernel, rfl, by decide +kernel, by decide +kernel⟩
abbrev n_law_words : List Str := ["words"]
theorem sc_law_words : FnScope n_law_words [] (defScope s_law_words) := ⟨rfl, rfl, rfl, by decide +kernel, rfl, by decide +kernel, by decide +kernel⟩
abbrev n_law_drawn : List Str := ["box", "known", "words", "size", "many", "k", "rows", "handlers", "first", "last"]
theorem sc_law_drawn : FnScope n_law_drawn ["box", "known"] (defScope s_law_drawn) := ⟨rfl, rfl, rfl, by decide +kernel, rfl, by decide +kernel, by decide +kernel⟩
abbrev n_law_read : List Str := ["row", "word", "places", "more", "place"]
theorem sc_law_read : FnScope n_law_read ["row"] (defScope s_law_read) := ⟨rfl, rfl, rfl, by decide +kernel, rfl, by decide +kernel, by decide +kernel⟩
abbrev n_law_written : List Str := ["row", "words"]
theorem sc_law_written : FnScope n_law_written ["row"] (defScope s_law_written) := ⟨rfl, rfl, rfl, by decide +kernel, rfl, by decide +kernel, by decide +kernel⟩
abbrev n_law_later : List Str := ["rows", "at", "word"]
theorem sc_law_later : FnScope n_law_later ["rows", "at"] (defScope s_law_later) := ⟨rfl, rfl, rfl, by decide +kernel, rfl, by decide +kernel, by decide +kernel⟩
abbrev n_law_catcher : List Str := ["handlers", "at", "one"]
theorem sc_law_catcher : FnScope n_law_catcher ["handlers", "at"] (defScope s_law_catcher) := ⟨rfl, rfl, rfl, by decide +kernel, rfl, by decide +kernel, by decide +kernel⟩
abbrev n_law_same : List Str := ["value", "due", "k"]
theorem sc_law_same : FnScope n_law_same ["value", "due"] (defScope s_law_same) := ⟨rfl, rfl, rfl, by decide +kernel, rfl, by decide +kernel, by decide +kernel⟩
abbrev n_law_row_agrees : List Str := ["row", "size", "reads", "slot"]
theorem sc_law_row_agrees : FnScope n_law_row_agrees ["row", "size"] (defScope s_law_row_agrees) := ⟨rfl, rfl, rfl, by decide +kernel, rfl, by decide +kernel, by decide +kernel⟩
abbrev n_law_loops : List Str := ["rows", "firsts", "place"]
theorem sc_law_loops : FnScope n_law_loops ["rows"] (defScope s_law_loops) := ⟨rfl, rfl, rfl, by decide +kernel, rfl, by decide +kernel, by decide +kernel⟩
abbrev n_law_has : List Str := ["code", "drawn"]
theorem sc_law_has : FnScope n_law_has ["code", "drawn"] (defScope s_law_has) := ⟨rfl, rfl, rfl, by decide +kernel, rfl, by decide +kernel, by decide +kernel⟩
abbrev n_law : List Str := ["script", "box", "known", "pair", "codes", "drawn", "rows", "handlers", "word", "k", "code", "at", "told", "other"]
theorem sc_law : FnScope n_law ["script"] (defScope s_law) := ⟨rfl, rfl, rfl, by decide +kernel, rfl, by decide +kernel, by decide +kernel⟩
def wd_LISTS : List (Str × Option Int) := [("call", some 3), ("callv", some 3), ("method", some 4), ("spawn", some 2), ("const", none), ("move", none), ("op", none), ("not", none), ("jump", none), ("branch", none), ("getg", none), ("setg", none), ("new", none), ("get", none), ("put", none), ("drop", none), ("array", none), ("at", none), ("setat", none), ("len", none), ("return", none), ("say", none), ("fail", none), ("load", none), ("pause", none)]
def wd_READS : List (Str × List Int) := [("const", []), ("move", [2]), ("op", [3, 4]), ("not", [2]), ("jump", []), ("branch", [1]), ("getg", []), ("setg", [2]), ("new", []), ("get", [2]), ("put", [1, 3]), ("drop", [1]), ("array", [2]), ("at", [2, 3]), ("setat", [1, 2, 3]), ("len", [2]), ("call", []), ("callv", [2]), ("method", [2]), ("return", [1]), ("say", [1]), ("fail", [1]), ("load", [1]), ("spawn", []), ("pause", [])]
def wd_WRITES : List (Str × Option Int) := [("const", some 1), ("move", some 1), ("op", some 2), ("not", some 1), ("getg", some 1), ("new", some 1), ("get", some 1), ("array", some 1), ("at", some 1), ("len", some 1), ("call", some 1), ("callv", some 1), ("method", some 1), ("jump", none), ("branch", none), ("setg", none), ("put", none), ("drop", none), ("setat", none), ("return", none), ("say", none), ("fail", none), ("load", none), ("spawn", none), ("pause", none)]
structure Adr where
  a_handler_at : Addr
  d_handler_at : FuncData
  a_slots_read : Addr
  d_slots_read : FuncData
  a_uses : Addr
  d_uses : FuncData
  a_target : Addr
  d_target : FuncData
  a_following : Addr
  d_following : FuncData
  a_heads : Addr
  d_heads : FuncData
  a_Code_init : Addr
  d_Code_init : FuncData
  a_told_code : Addr
  d_told_code : FuncData
  a_code_of : Addr
  d_code_of : FuncData
  a_law_box : Addr
  d_law_box : FuncData
  a_law_draw : Addr
  d_law_draw : FuncData
  a_law_reserved : Addr
  d_law_reserved : FuncData
  a_law_word : Addr
  d_law_word : FuncData
  a_law_value : Addr
  d_law_value : FuncData
  a_law_row : Addr
  d_law_row : FuncData
  a_law_words : Addr
  d_law_words : FuncData
  a_law_drawn : Addr
  d_law_drawn : FuncData
  a_law_read : Addr
  d_law_read : FuncData
  a_law_written : Addr
  d_law_written : FuncData
  a_law_later : Addr
  d_law_later : FuncData
  a_law_catcher : Addr
  d_law_catcher : FuncData
  a_law_same : Addr
  d_law_same : FuncData
  a_law_row_agrees : Addr
  d_law_row_agrees : FuncData
  a_law_loops : Addr
  d_law_loops : FuncData
  a_law_has : Addr
  d_law_has : FuncData
  a_law : Addr
  d_law : FuncData
  C_Code : Addr
  c_LISTS : Addr
  c_READS : Addr
  c_WRITES : Addr
/-- what the top has written -/
structure Txt (K : PySem.W.Frag) (w : World) (mg : Str → Option Value) (A : Adr) : Prop where
  g_handler_at : mg "handler_at" = some (.ref A.a_handler_at)
  F_handler_at : Fun K "handler_at" "handler_at" s_handler_at A.a_handler_at A.d_handler_at
  b_handler_at : Binds K A.d_handler_at ["code", "pc"] []
  g_slots_read : mg "slots_read" = some (.ref A.a_slots_read)
  F_slots_read : Fun K "slots_read" "slots_read" s_slots_read A.a_slots_read A.d_slots_read
  b_slots_read : Binds K A.d_slots_read ["row"] []
  g_uses : mg "uses" = some (.ref A.a_uses)
  F_uses : Fun K "uses" "uses" s_uses A.a_uses A.d_uses
  b_uses : Binds K A.d_uses ["row"] []
  g_target : mg "target" = some (.ref A.a_target)
  F_target : Fun K "target" "target" s_target A.a_target A.d_target
  b_target : Binds K A.d_target ["row"] []
  g_following : mg "following" = some (.ref A.a_following)
  F_following : Fun K "following" "following" s_following A.a_following A.d_following
  b_following : Binds K A.d_following ["code", "pc"] []
  g_heads : mg "heads" = some (.ref A.a_heads)
  F_heads : Fun K "heads" "heads" s_heads A.a_heads A.d_heads
  b_heads : Binds K A.d_heads ["code"] []
  F_Code_init : Fun K "__init__" "Code.__init__" s_Code_init A.a_Code_init A.d_Code_init
  b_Code_init : Binds K A.d_Code_init ["self", "name", "params", "size", "rows", "handlers"] []
  g_told_code : mg "told_code" = some (.ref A.a_told_code)
  F_told_code : Fun K "told_code" "told_code" s_told_code A.a_told_code A.d_told_code
  b_told_code : Binds K A.d_told_code ["code"] []
  g_code_of : mg "code_of" = some (.ref A.a_code_of)
  F_code_of : Fun K "code_of" "code_of" s_code_of A.a_code_of A.d_code_of
  b_code_of : Binds K A.d_code_of ["told"] []
  g_law_box : mg "_law_box" = some (.ref A.a_law_box)
  F_law_box : Fun K "_law_box" "_law_box" s_law_box A.a_law_box A.d_law_box
  b_law_box : Binds K A.d_law_box ["script"] []
  g_law_draw : mg "_law_draw" = some (.ref A.a_law_draw)
  F_law_draw : Fun K "_law_draw" "_law_draw" s_law_draw A.a_law_draw A.d_law_draw
  b_law_draw : Binds K A.d_law_draw ["box", "many"] []
  g_law_reserved : mg "_law_reserved" = some (.ref A.a_law_reserved)
  F_law_reserved : Fun K "_law_reserved" "_law_reserved" s_law_reserved A.a_law_reserved A.d_law_reserved
  b_law_reserved : Binds K A.d_law_reserved [] []
  g_law_word : mg "_law_word" = some (.ref A.a_law_word)
  F_law_word : Fun K "_law_word" "_law_word" s_law_word A.a_law_word A.d_law_word
  b_law_word : Binds K A.d_law_word ["box", "known"] []
  g_law_value : mg "_law_value" = some (.ref A.a_law_value)
  F_law_value : Fun K "_law_value" "_law_value" s_law_value A.a_law_value A.d_law_value
  b_law_value : Binds K A.d_law_value ["box", "known"] []
  g_law_row : mg "_law_row" = some (.ref A.a_law_row)
  F_law_row : Fun K "_law_row" "_law_row" s_law_row A.a_law_row A.d_law_row
  b_law_row : Binds K A.d_law_row ["box", "word", "many", "size", "known"] []
  g_law_words : mg "_law_words" = some (.ref A.a_law_words)
  F_law_words : Fun K "_law_words" "_law_words" s_law_words A.a_law_words A.d_law_words
  b_law_words : Binds K A.d_law_words [] []
  g_law_drawn : mg "_law_drawn" = some (.ref A.a_law_drawn)
  F_law_drawn : Fun K "_law_drawn" "_law_drawn" s_law_drawn A.a_law_drawn A.d_law_drawn
  b_law_drawn : Binds K A.d_law_drawn ["box", "known"] []
  g_law_read : mg "_law_read" = some (.ref A.a_law_read)
  F_law_read : Fun K "_law_read" "_law_read" s_law_read A.a_law_read A.d_law_read
  b_law_read : Binds K A.d_law_read ["row"] []
  g_law_written : mg "_law_written" = some (.ref A.a_law_written)
  F_law_written : Fun K "_law_written" "_law_written" s_law_written A.a_law_written A.d_law_written
  b_law_written : Binds K A.d_law_written ["row"] []
  g_law_later : mg "_law_later" = some (.ref A.a_law_later)
  F_law_later : Fun K "_law_later" "_law_later" s_law_later A.a_law_later A.d_law_later
  b_law_later : Binds K A.d_law_later ["rows", "at"] []
  g_law_catcher : mg "_law_catcher" = some (.ref A.a_law_catcher)
  F_law_catcher : Fun K "_law_catcher" "_law_catcher" s_law_catcher A.a_law_catcher A.d_law_catcher
  b_law_catcher : Binds K A.d_law_catcher ["handlers", "at"] []
  g_law_same : mg "_law_same" = some (.ref A.a_law_same)
  F_law_same : Fun K "_law_same" "_law_same" s_law_same A.a_law_same A.d_law_same
  b_law_same : Binds K A.d_law_same ["value", "due"] []
  g_law_row_agrees : mg "_law_row_agrees" = some (.ref A.a_law_row_agrees)
  F_law_row_agrees : Fun K "_law_row_agrees" "_law_row_agrees" s_law_row_agrees A.a_law_row_agrees A.d_law_row_agrees
  b_law_row_agrees : Binds K A.d_law_row_agrees ["row", "size"] []
  g_law_loops : mg "_law_loops" = some (.ref A.a_law_loops)
  F_law_loops : Fun K "_law_loops" "_law_loops" s_law_loops A.a_law_loops A.d_law_loops
  b_law_loops : Binds K A.d_law_loops ["rows"] []
  g_law_has : mg "_law_has" = some (.ref A.a_law_has)
  F_law_has : Fun K "_law_has" "_law_has" s_law_has A.a_law_has A.d_law_has
  b_law_has : Binds K A.d_law_has ["code", "drawn"] []
  g_law : mg "law" = some (.ref A.a_law)
  F_law : Fun K "law" "law" s_law A.a_law A.d_law
  b_law : Binds K A.d_law ["script"] []
  gc_Code : mg "Code" = some (.ref A.C_Code)
  q_Code : Cls K A.C_Code
  m_Code : Mk K A.C_Code A.a_Code_init
  na_Code_name : NoAttr K A.C_Code "name"
  na_Code_params : NoAttr K A.C_Code "params"
  na_Code_size : NoAttr K A.C_Code "size"
  na_Code_rows : NoAttr K A.C_Code "rows"
  na_Code_handlers : NoAttr K A.C_Code "handlers"
  na_Code_known_live : NoAttr K A.C_Code "known_live"
  n_all : mg "all" = none
  n_bool : mg "bool" = none
  n_enumerate : mg "enumerate" = none
  n_int : mg "int" = none
  n_isinstance : mg "isinstance" = none
  n_len : mg "len" = none
  n_list : mg "list" = none
  n_range : mg "range" = none
  n_set : mg "set" = none
  n_sorted : mg "sorted" = none
  n_str : mg "str" = none
  n_tuple : mg "tuple" = none
  g_LISTS : mg "LISTS" = some (.ref A.c_LISTS)
  w_LISTS : WDict K w A.c_LISTS
  x_LISTS : ∀ p ∈ wd_LISTS, WAt K A.c_LISTS p.1 (p.2.map V.int)
  g_READS : mg "READS" = some (.ref A.c_READS)
  w_READS : WDict K w A.c_READS
  x_READS : ∀ p ∈ wd_READS, ∃ t, WAt K A.c_READS p.1 (some (.ref t)) ∧ ∀ H, SqT K H t (p.2.map V.int)
  g_WRITES : mg "WRITES" = some (.ref A.c_WRITES)
  w_WRITES : WDict K w A.c_WRITES
  x_WRITES : ∀ p ∈ wd_WRITES, WAt K A.c_WRITES p.1 (p.2.map V.int)
end LW
namespace LW
open PySem PySem.Spec PyProof.Rows L2 Rf CM
open PySem.PyData (strOk)
/-! ### data on the heap that no store reaches -/
def noL : PyData → Bool
  | .list _ => false
  | .tuple xs => noLA xs
  | _ => true
where noLA : List PyData → Bool
  | [] => true
  | x :: xs => noL x && noLA xs
def NoT (H : Hp) (S : List Addr) : Prop := ∀ a ∈ S, ∀ xs, ¬ Rd H a (.tup xs)
theorem noT_nil {H : Hp} : NoT H [] := fun a h => by simp at h
theorem noT_lst {H : Hp} {a : Addr} {S : List Addr} {l : List V} (h : H a = some (.lst l)) (r : NoT H S) : NoT H (a :: S) := fun b m xs q => by
  rcases List.mem_cons.1 m with e | m
  · subst e
    rcases q with q | ⟨o, q⟩ <;> · rw [h] at q; cases q
  · exact r b m xs q
theorem noT_ins {H : Hp} {a C dx : Addr} {S : List Addr} {l : List (Str × V)} (h : H a = some (.ins C dx l)) (r : NoT H S) : NoT H (a :: S) := fun b m xs q => by
  rcases List.mem_cons.1 m with e | m
  · subst e
    rcases q with q | ⟨o, q⟩ <;> · rw [h] at q; cases q
  · exact r b m xs q
theorem sqT_keep {K : PySem.W.Frag} {H H' : Hp} {S : List Addr} {a : Addr} {xs : List V} (k : Keep S H H') (n : NoT H S) (h : SqT K H a xs) : SqT K H' a xs := by
  rcases h with h | h
  · exact Or.inl (k.rd (fun m => n a m xs h) h)
  · exact Or.inr h
mutual
theorem dpT_keep {K : PySem.W.Frag} {H H' : Hp} {S : List Addr} (k : Keep S H H') (n : NoT H S) : ∀ (d : PyData) (v : V), noL d = true → Dp K H v d → Dp K H' v d
  | .none, _, _, h => by cases h; exact .non
  | .bool b, _, _, h => by cases h; exact .bl b
  | .int i, _, _, h => by cases h; exact .int i
  | .str x, _, _, h => by cases h; exact .str x
  | .list ds, _, e, h => by simp [noL] at e
  | .tuple ds, _, e, h => by
    cases h with
    | tup s a => exact .tup (sqT_keep k n s) (dpTA_keep k n ds _ (by simpa [noL] using e) a)
  | .dict _, _, _, h => by cases h
theorem dpTA_keep {K : PySem.W.Frag} {H H' : Hp} {S : List Addr} (k : Keep S H H') (n : NoT H S) : ∀ (ds : List PyData) (vs : List V), noL.noLA ds = true → DpAll K H vs ds → DpAll K H' vs ds
  | [], _, _, h => by cases h; exact .nil
  | d :: ds, _, e, h => by
    simp only [noL.noLA, Bool.and_eq_true] at e
    cases h with
    | cons a b => exact .cons (dpT_keep k n d _ e.1 a) (dpTA_keep k n ds _ e.2 b)
end
mutual
theorem dp_keep {K : PySem.W.Frag} {H H' : Hp} (k : Keep [] H H') : ∀ (d : PyData) (v : V), Dp K H v d → Dp K H' v d
  | .none, _, h => by cases h; exact .non
  | .bool b, _, h => by cases h; exact .bl b
  | .int i, _, h => by cases h; exact .int i
  | .str x, _, h => by cases h; exact .str x
  | .list ds, _, h => by
    cases h with
    | lst s a => exact .lst (k.seq (by simp) s) (dpA_keep k ds _ a)
  | .tuple ds, _, h => by
    cases h with
    | tup s a => exact .tup (k.tup (by simp) s) (dpA_keep k ds _ a)
  | .dict _, _, h => by cases h
theorem dpA_keep {K : PySem.W.Frag} {H H' : Hp} (k : Keep [] H H') : ∀ (ds : List PyData) (vs : List V), DpAll K H vs ds → DpAll K H' vs ds
  | [], _, h => by cases h; exact .nil
  | d :: ds, _, h => by
    cases h with
    | cons a b => exact .cons (dp_keep k d _ a) (dpA_keep k ds _ b)
end
/-! ### the box, the words -/
def Box (H : Hp) (p g l : Addr) : Prop := ∃ (gs ls : List Int) (a b : Int), H p = some (.lst [.ref g, .ref l, .int a, .int b]) ∧ H g = some (.lst (gs.map V.int)) ∧ H l = some (.lst (ls.map V.int)) ∧
  g ≠ l ∧ gs.length ≤ 63 ∧ 1 ≤ ls.length ∧ ls.length ≤ 64
def Known (H : Hp) (k : Addr) (ws : List Str) : Prop := H k = some (.lst (ws.map V.str)) ∧ (∀ w ∈ ws, WordOk w) ∧ ws.length ≤ 12
structure Pot (H : Hp) (p g l k : Addr) : Prop where
  box : Box H p g l
  kn : ∃ ws, Known H k ws
  np : k ≠ p
  ng : k ≠ g
  nl : k ≠ l
/-! ### rows, handlers -/
def RowAt (K : PySem.W.Frag) (H : Hp) (a : Addr) (i : Ins) : Prop := Dp K H (.ref a) (.tuple i.data) ∧ noL (.tuple i.data) = true
def HandAt (K : PySem.W.Frag) (H : Hp) (a : Addr) (h : Hd) : Prop := SqT K H a [.int h.1, .int h.2.1, .int h.2.2.1, .int h.2.2.2]
/-- lists of rows, of handlers -/
def RowsAt (K : PySem.W.Frag) (H : Hp) (l : Addr) (rows : List Ins) : Prop := ∃ as : List Addr, H l = some (.lst (as.map V.ref)) ∧ Paired (RowAt K H) as rows
def HandsAt (K : PySem.W.Frag) (H : Hp) (l : Addr) (hs : List Hd) : Prop := ∃ as : List Addr, H l = some (.lst (as.map V.ref)) ∧ Paired (HandAt K H) as hs
structure DrawnAt (K : PySem.W.Frag) (H : Hp) (q lr lh : Addr) (D : Drw) : Prop where
  at_ : H q = some (.lst [.str D.nm, .int D.pa, .int D.sz, .ref lr, .ref lh])
  rows : RowsAt K H lr D.rows
  hs : HandsAt K H lh D.hs
def NoCode (K : PySem.W.Frag) (C : Addr) : Prop := NoAttr K C "name" ∧ NoAttr K C "params" ∧ NoAttr K C "size" ∧ NoAttr K C "rows" ∧ NoAttr K C "handlers" ∧ NoAttr K C "known_live"
def flds (nm : Str) (pa sz : Int) (lr lh : Addr) (kl : V) : List (Str × V) := [("name", .str nm), ("params", .int pa), ("size", .int sz), ("rows", .ref lr), ("handlers", .ref lh), ("known_live", kl)]
structure CodeAt (K : PySem.W.Frag) (H : Hp) (p lr lh : Addr) (kl : V) (D : Drw) : Prop where
  at_ : ∃ C dx, Cls K C ∧ NoCode K C ∧ H p = some (.ins C dx (flds D.nm D.pa D.sz lr lh kl))
  rows : RowsAt K H lr D.rows
  hs : HandsAt K H lh D.hs
def CatV (K : PySem.W.Frag) (H : Hp) (o : Option Hd) (v : V) : Prop := match o with
  | none => v = .non
  | some h => ∃ a, v = .ref a ∧ HandAt K H a h
/-! ### the promises -/
def sp_law_box (K : PySem.W.Frag) : Sp := fun vs H Q E => ∃ (a : Addr) (ns : List Int), vs = [.ref a] ∧ SqL K H a (ns.map V.int) ∧ ns.length ≤ 63 ∧
  ∀ (H' : Hp) (p g l : Addr), Keep [] H H' → H p = none → H g = none → H l = none → Box H' p g l → Q (.ref p) H'
def sp_law_draw (K : PySem.W.Frag) : Sp := fun vs H Q E => ∃ (p g l : Addr) (n : Int), vs = [.ref p, .int n] ∧ Box H p g l ∧ 1 ≤ n ∧ n < 1152921504606846976 ∧
  ∀ (r : Int) (H' : Hp), 0 ≤ r → r < n → Keep [p, g] H H' → Box H' p g l → Q (.int r) H'
def sp_law_reserved (K : PySem.W.Frag) : Sp := fun vs H Q E => ∃ (u : Unit), vs = [] ∧ ∀ (H' : Hp) (l : Addr) (ws : List Str), Keep [] H H' → H l = none → H' l = some (.lst (ws.map V.str)) → ws.length = 21 → (∀ w ∈ ws, strOk w = true ∧ 1 ≤ w.length ∧ w.length ≤ 6) → Q (.ref l) H'
def sp_law_word (K : PySem.W.Frag) : Sp := fun vs H Q E => ∃ (p g l k : Addr), vs = [.ref p, .ref k] ∧ Pot H p g l k ∧
  ∀ (w : Str) (H' : Hp), WordOk w → Keep [p, g, k] H H' → Pot H' p g l k → Q (.str w) H'
def sp_law_value (K : PySem.W.Frag) : Sp := fun vs H Q E => ∃ (p g l k : Addr), vs = [.ref p, .ref k] ∧ Pot H p g l k ∧
  ∀ (v : V) (d : PyData) (H' : Hp), Dp K H' v d → noL d = true → gd d = true → d.depth ≤ 1 → Keep [p, g, k] H H' → Pot H' p g l k → Q v H'
def sp_law_row (K : PySem.W.Frag) : Sp := fun vs H Q E => ∃ (p g l k : Addr) (word : Str) (many size : Int), vs = [.ref p, .str word, .int many, .int size, .ref k] ∧ Pot H p g l k ∧ word ∈ W25 ∧ 1 ≤ size ∧ size ≤ 10 ∧ 1 ≤ many ∧ many ≤ 30 ∧
  ∀ (a : Addr) (i : Ins) (H' : Hp), Keep [p, g, k] H H' → Pot H' p g l k → RowAt K H' a i → i.Ok many size → i.word = word → Q (.ref a) H'
def sp_law_words (K : PySem.W.Frag) : Sp := fun vs H Q E => ∃ (u : Unit), vs = [] ∧ ∀ (H' : Hp) (l : Addr), Keep [] H H' → H l = none → H' l = some (.lst (W25.map V.str)) → Q (.ref l) H'
def sp_law_drawn (K : PySem.W.Frag) : Sp := fun vs H Q E => ∃ (p g l k : Addr), vs = [.ref p, .ref k] ∧ Pot H p g l k ∧
  ∀ (q lr lh : Addr) (D : Drw) (H' : Hp), Keep [p, g, k] H H' → Pot H' p g l k → H q = none → H lr = none → H lh = none → DrawnAt K H' q lr lh D → D.Ok → Q (.ref q) H'
def sp_Code_init (K : PySem.W.Frag) : Sp := fun vs H Q E => ∃ (x C dx lr lh : Addr) (nm : Str) (pa sz : Int) (xs ys : List V), vs = [.ref x, .str nm, .int pa, .int sz, .ref lr, .ref lh] ∧ H x = some (.ins C dx []) ∧ Cls K C ∧ NoCode K C ∧
  (H lr = some (.lst xs) ∨ H lr = some (.tup xs)) ∧ (H lh = some (.lst ys) ∨ H lh = some (.tup ys)) ∧
  ∀ (H' : Hp) (lr' lh' : Addr), Keep [x] H H' → H lr' = none → H lh' = none → lr' ≠ lh' → H' x = some (.ins C dx (flds nm pa sz lr' lh' .non)) → H' lr' = some (.lst xs) → H' lh' = some (.lst ys) → Q .non H'
def sp_slots_read (K : PySem.W.Frag) : Sp := fun vs H Q E => ∃ (a : Addr) (i : Ins) (m s : Int), vs = [.ref a] ∧ RowAt K H a i ∧ i.Ok m s ∧
  ∀ (H' : Hp) (l : Addr), Keep [] H H' → H l = none → H' l = some (.lst (i.reads.map V.int)) → Q (.ref l) H'
def sp_target (K : PySem.W.Frag) : Sp := fun vs H Q E => ∃ (a : Addr) (i : Ins) (m s : Int), vs = [.ref a] ∧ RowAt K H a i ∧ i.Ok m s ∧ Q (optV i.written) H
def sp_following (K : PySem.W.Frag) : Sp := fun vs H Q E => ∃ (p lr lh : Addr) (kl : V) (D : Drw) (j : Nat) (i : Ins), vs = [.ref p, .int j] ∧ CodeAt K H p lr lh kl D ∧ D.rows[j]? = some i ∧ i.Ok D.rows.length D.sz ∧
  ∀ (H' : Hp) (l : Addr), Keep [] H H' → H l = none → H' l = some (.lst ((later i j).map V.int)) → Q (.ref l) H'
def sp_handler_at (K : PySem.W.Frag) : Sp := fun vs H Q E => ∃ (p lr lh : Addr) (kl : V) (D : Drw) (pc : Int), vs = [.ref p, .int pc] ∧ CodeAt K H p lr lh kl D ∧
  ∀ v, CatV K H (catcher D.hs pc) v → Q v H
def sp_law_read (K : PySem.W.Frag) : Sp := fun vs H Q E => ∃ (a : Addr) (i : Ins) (m s : Int), vs = [.ref a] ∧ RowAt K H a i ∧ i.Ok m s ∧
  ∀ (H' : Hp) (l : Addr), Keep [] H H' → H l = none → H' l = some (.lst (i.reads.map V.int)) → Q (.ref l) H'
def sp_law_written (K : PySem.W.Frag) : Sp := fun vs H Q E => ∃ (a : Addr) (i : Ins) (m s : Int), vs = [.ref a] ∧ RowAt K H a i ∧ i.Ok m s ∧ ∀ H', Keep [] H H' → Q (optV i.written) H'
def sp_law_later (K : PySem.W.Frag) : Sp := fun vs H Q E => ∃ (l : Addr) (rows : List Ins) (j : Nat) (i : Ins), vs = [.ref l, .int j] ∧ RowsAt K H l rows ∧ rows[j]? = some i ∧ (∃ m s, i.Ok m s) ∧
  ∀ (H' : Hp) (l : Addr), Keep [] H H' → H l = none → H' l = some (.lst ((later i j).map V.int)) → Q (.ref l) H'
def sp_law_catcher (K : PySem.W.Frag) : Sp := fun vs H Q E => ∃ (l : Addr) (hs : List Hd) (pc : Int), vs = [.ref l, .int pc] ∧ HandsAt K H l hs ∧
  ∀ v, CatV K H (catcher hs pc) v → Q v H
def sp_law_same (n : Nat) (K : PySem.W.Frag) : Sp := fun vs H Q E => ∃ (x y : V) (d : PyData), vs = [x, y] ∧ Dp K H x d ∧ Dp K H y d ∧ gd d = true ∧ d.depth < n ∧ ∀ H', Keep [] H H' → Q (.bl true) H'
def sp_law (K : PySem.W.Frag) : Sp := fun vs H Q E => ∃ (a : Addr) (ns : List Int), vs = [.ref a] ∧ SqL K H a (ns.map V.int) ∧ ns.length ≤ 63 ∧ ∀ H', Q (.bl true) H'
/-! ### queries -/
def RowsT (K : PySem.W.Frag) (H : Hp) (l : Addr) (rows : List Ins) : Prop := ∃ as : List Addr, H l = some (.tup (as.map V.ref)) ∧ Paired (RowAt K H) as rows
def HandsT (K : PySem.W.Frag) (H : Hp) (l : Addr) (hs : List Hd) : Prop := ∃ as : List Addr, H l = some (.tup (as.map V.ref)) ∧ Paired (HandAt K H) as hs
def ToldAt (K : PySem.W.Frag) (H : Hp) (t : Addr) (D : Drw) : Prop := ∃ tr th, H t = some (.tup [.str D.nm, .int D.pa, .int D.sz, .ref tr, .ref th]) ∧ RowsT K H tr D.rows ∧ HandsT K H th D.hs
def sp_uses (K : PySem.W.Frag) : Sp := fun vs H Q E => ∃ (a : Addr) (i : Ins) (m s : Int), vs = [.ref a] ∧ RowAt K H a i ∧ i.Ok m s ∧ s ≤ 10 ∧
  ∀ (H' : Hp) (l : Addr), Keep [] H H' → H l = none → H' l = some (.lst ((usesOf i).map V.int)) → Q (.ref l) H'
def sp_heads (K : PySem.W.Frag) : Sp := fun vs H Q E => ∃ (p lr lh : Addr) (kl : V) (D : Drw), vs = [.ref p] ∧ CodeAt K H p lr lh kl D ∧ D.Ok ∧
  ∀ (H' : Hp) (l : Addr), Keep [] H H' → H l = none → H' l = some (.lst ((headsOf D.rows).map V.int)) → Q (.ref l) H'
def sp_told_code (K : PySem.W.Frag) : Sp := fun vs H Q E => ∃ (p lr lh : Addr) (kl : V) (D : Drw), vs = [.ref p] ∧ CodeAt K H p lr lh kl D ∧
  ∀ (H' : Hp) (t : Addr), Keep [] H H' → ToldAt K H' t D → Q (.ref t) H'
def sp_code_of (K : PySem.W.Frag) : Sp := fun vs H Q E => ∃ (t : Addr) (D : Drw), vs = [.ref t] ∧ ToldAt K H t D ∧
  ∀ (H' : Hp) (x lr lh : Addr), Keep [] H H' → CodeAt K H' x lr lh .non D → Q (.ref x) H'
def sp_law_row_agrees (K : PySem.W.Frag) : Sp := fun vs H Q E => ∃ (a : Addr) (i : Ins) (m s : Int), vs = [.ref a, .int s] ∧ RowAt K H a i ∧ i.Ok m s ∧ 1 ≤ s ∧ s ≤ 10 ∧ ∀ H', Keep [] H H' → Q (.bl true) H'
def sp_law_loops (K : PySem.W.Frag) : Sp := fun vs H Q E => ∃ (l : Addr) (rows : List Ins) (m s : Int), vs = [.ref l] ∧ RowsAt K H l rows ∧ (∀ i ∈ rows, i.Ok m s) ∧ rows.length ≤ 30 ∧
  ∀ (H' : Hp) (l : Addr), Keep [] H H' → H l = none → H' l = some (.lst ((headsOf rows).map V.int)) → Q (.ref l) H'
def sp_law_has (K : PySem.W.Frag) : Sp := fun vs H Q E => ∃ (p lr lh q lr' lh' : Addr) (kl : V) (D : Drw), vs = [.ref p, .ref q] ∧ CodeAt K H p lr lh kl D ∧ DrawnAt K H q lr' lh' D ∧ D.Ok ∧ ∀ H', Keep [] H H' → Q (.bl true) H'
end LW
namespace LW
open PySem PySem.Spec PyProof.Rows L2 Rf
def t_handler_at (K : PySem.W.Frag) (w : World) (A : Adr) : TS :=
 (tSeq (tFor (iList K (tFld K (tVar 0) "handlers")) (gName 2)
 (tIfS (tTest (tChain rLeI rLtI (tOp (rIxT K) (tVar 2) (tC (.int 0))) (tVar 1) (tOp (rIxT K) (tVar 2) (tC (.int 1)))))
 (tRet (tVar 2))
 tNext))
 (tRet (tC .non)))
def t_slots_read (K : PySem.W.Frag) (w : World) (A : Adr) : TS :=
 (tSeq (tAsg (tLc (iTup K (tOp (rIxW K w) (tC (.ref A.c_READS)) (tOp (rIxT K) (tVar 0) (tC (.int 0))))) (gName 2) tYes (tOp (rIxT K) (tVar 0) (tVar 2)) [2]) (gName 1))
 (tSeq (tIfS (tTest (tOp (rInW K w) (tOp (rIxT K) (tVar 0) (tC (.int 0))) (tC (.ref A.c_LISTS))))
 (tDrop (tBM K "list" (rExtT K) (tVar 1) (tCons (tOp (rIxT K) (tVar 0) (tOp (rIxW K w) (tC (.ref A.c_LISTS)) (tOp (rIxT K) (tVar 0) (tC (.int 0))))) tNil)))
 tNext)
 (tRet (tVar 1))))
def t_uses (K : PySem.W.Frag) (w : World) (A : Adr) : TS :=
 (tRet (tCB (rSortedSet w) (tCons (tCB (rSetL K w) (tCons (tCall (sp_slots_read K) [] E0 (tCons (tVar 0) tNil)) tNil)) tNil)))
def t_target (K : PySem.W.Frag) (w : World) (A : Adr) : TS :=
 (tSeq (tAsg (tGetW K w (tC (.ref A.c_WRITES)) (tOp (rIxT K) (tVar 0) (tC (.int 0)))) (gName 1))
 (tSeq (tIfS (tTest (tOp rIsN0 (tVar 1) (tC .non)))
 (tRet (tC .non))
 tNext)
 (tRet (tOp (rIxT K) (tVar 0) (tVar 1)))))
def t_following (K : PySem.W.Frag) (w : World) (A : Adr) : TS :=
 (tSeq (tAsg (tOp (rIxL K) (tFld K (tVar 0) "rows") (tVar 1)) (gName 2))
 (tSeq (tIfS (tTest (tOp (rIn K false) (tOp (rIxT K) (tVar 2) (tC (.int 0))) (tTup (tCons (tC (.str "return")) (tCons (tC (.str "fail")) tNil)))))
 (tRet (tLst tNil))
 tNext)
 (tSeq (tIfS (tTest (tOp rEq (tOp (rIxT K) (tVar 2) (tC (.int 0))) (tC (.str "jump"))))
 (tRet (tLst (tCons (tOp (rIxT K) (tVar 2) (tC (.int 1))) tNil)))
 tNext)
 (tSeq (tIfS (tTest (tOp rEq (tOp (rIxT K) (tVar 2) (tC (.int 0))) (tC (.str "branch"))))
 (tRet (tCB (rSortedSet w) (tCons (tSetI2 w (tOp rAddI (tVar 1) (tC (.int 1))) (tOp (rIxT K) (tVar 2) (tC (.int 2)))) tNil)))
 tNext)
 (tRet (tLst (tCons (tOp rAddI (tVar 1) (tC (.int 1))) tNil)))))))
def t_heads (K : PySem.W.Frag) (w : World) (A : Adr) : TS :=
 (tRet (tCB (rSortedSet w) (tCons (tScI w (iEnum K (tCons (tFld K (tVar 0) "rows") tNil)) (gTup K 2 (gCons (gName 1) (gCons (gName 2) gNil))) (tAnd (tTest (tOp rEq (tOp (rIxT K) (tVar 2) (tC (.int 0))) (tC (.str "jump")))) (tTest (tOp rLeI (tOp (rIxT K) (tVar 2) (tC (.int 1))) (tVar 1)))) (tOp (rIxT K) (tVar 2) (tC (.int 1))) [1, 2]) tNil)))
def t_Code_init (K : PySem.W.Frag) (w : World) (A : Adr) : TS :=
 (tSeq (sFld K (tVar 0) (tVar 1) "name")
 (tSeq (sFld K (tVar 0) (tVar 2) "params")
 (tSeq (sFld K (tVar 0) (tVar 3) "size")
 (tSeq (sFld K (tVar 0) (tCB (rListOf K) (tCons (tVar 4) tNil)) "rows")
 (tSeq (sFld K (tVar 0) (tCB (rListOf K) (tCons (tVar 5) tNil)) "handlers")
 (sFld K (tVar 0) (tC .non) "known_live"))))))
def t_told_code (K : PySem.W.Frag) (w : World) (A : Adr) : TS :=
 (tRet (tTup (tCons (tFld K (tVar 0) "name") (tCons (tFld K (tVar 0) "params") (tCons (tFld K (tVar 0) "size") (tCons (tCB (rTupOf K) (tCons (tFld K (tVar 0) "rows") tNil)) (tCons (tCB (rTupOf K) (tCons (tFld K (tVar 0) "handlers") tNil)) tNil)))))))
def t_code_of (K : PySem.W.Frag) (w : World) (A : Adr) : TS :=
 (tSeq (tAsg (tVar 0) (gTup K 5 (gCons (gName 1) (gCons (gName 2) (gCons (gName 3) (gCons (gName 4) (gCons (gName 5) gNil)))))))
 (tRet (tMake A.C_Code (sp_Code_init K) [] E0 (tCons (tVar 1) (tCons (tVar 2) (tCons (tVar 3) (tCons (tVar 4) (tCons (tVar 5) tNil))))))))
def t_law_box (K : PySem.W.Frag) (w : World) (A : Adr) : TS :=
 (tSeq (tAsg (tLc (iList K (tSl (rSlL K) (tVar 0) tNoPart (tPart (tC (.int 63))))) (gName 3) tYes (tCB rInt1 (tCons (tVar 3) tNil)) [3]) (gName 1))
 (tSeq (tAsg (tLc (iList K (tVar 1)) (gName 3) (tTest (tOp rLtI (tVar 3) (tOp rPowI (tC (.int 10)) (tC (.int 18))))) (tOp rModI (tCB rInt1 (tCons (tVar 3) tNil)) (tC (.int 2147483629))) [3]) (gName 2))
 (tRet (tLst (tCons (tLc (iList K (tVar 1)) (gName 3) (tTest (tOp rGeI (tVar 3) (tOp rPowI (tC (.int 10)) (tC (.int 18))))) (tVar 3) [3]) (tCons (tOp rCat (tLst (tCons (tOp rAddI (tCB (rLenS K) (tCons (tVar 1) tNil)) (tC (.int 17))) tNil)) (tVar 2)) (tCons (tC (.int 7)) (tCons (tC (.int 0)) tNil))))))))
def t_law_draw (K : PySem.W.Frag) (w : World) (A : Adr) : TS :=
 (tSeq (tAsg (tOp (rIxL K) (tVar 0) (tC (.int 0))) (gName 2))
 (tSeq (tIfS (tTruth K (tVar 2))
 (tSeq (tAsg (tBM K "list" rPopAt (tVar 2) (tCons (tC (.int 0)) tNil)) (gName 3))
 (tSeq (tIfS (tTest (tOp rGeI (tVar 3) (tVar 1)))
 (tDrop (tBM K "list" rInsert (tVar 2) (tCons (tC (.int 0)) (tCons (tOp rDivW (tVar 3) (tVar 1)) tNil))))
 tNext)
 (tRet (tOp rModI (tCB rInt1 (tCons (tVar 3) tNil)) (tVar 1)))))
 tNext)
 (tSeq (tAsg (tOp (rIxL K) (tVar 0) (tC (.int 1))) (gName 4))
 (tSeq (tAsg (tOp rAddI (tOp (rIxL K) (tVar 0) (tC (.int 3))) (tC (.int 1))) (gSub (tVar 0) (tC (.int 3)) rSetL))
 (tSeq (tAsg (tOp (rIxL K) (tVar 4) (tOp rModI (tOp (rIxL K) (tVar 0) (tC (.int 3))) (tCB (rLenS K) (tCons (tVar 4) tNil)))) (gName 5))
 (tSeq (tAsg (tOp rModI (tCB rInt1 (tCons (tOp rAddI (tOp rAddI (tOp rMulI (tOp (rIxL K) (tVar 0) (tC (.int 2))) (tC (.int 48271))) (tVar 5)) (tOp rMulI (tOp (rIxL K) (tVar 0) (tC (.int 3))) (tC (.int 69621)))) tNil)) (tC (.int 2147483647))) (gSub (tVar 0) (tC (.int 2)) rSetL))
 (tRet (tOp rModI (tOp rModI (tCB rInt1 (tCons (tOp rAddI (tOp rMulI (tOp rDivI (tOp (rIxL K) (tVar 0) (tC (.int 2))) (tC (.int 8))) (tC (.int 40692))) (tOp (rIxL K) (tVar 0) (tC (.int 3)))) tNil)) (tC (.int 2147483399))) (tVar 1)))))))))
def t_law_reserved (K : PySem.W.Frag) (w : World) (A : Adr) : TS :=
 (tSeq (tAsg (tLst (tCons (tC (.str "array")) (tCons (tC (.str "call")) (tCons (tC (.str "catch")) (tCons (tC (.str "def")) (tCons (tC (.str "div")) (tCons (tC (.str "drop")) (tCons (tC (.str "else")) (tCons (tC (.str "fail")) (tCons (tC (.str "if")) (tCons (tC (.str "len")) (tCons (tC (.str "load")) (tCons (tC (.str "mod")) tNil))))))))))))) (gName 0))
 (tRet (tOp rCat (tVar 0) (tLst (tCons (tC (.str "new")) (tCons (tC (.str "nil")) (tCons (tC (.str "not")) (tCons (tC (.str "pause")) (tCons (tC (.str "return")) (tCons (tC (.str "say")) (tCons (tC (.str "spawn")) (tCons (tC (.str "try")) (tCons (tC (.str "while")) tNil)))))))))))))
def t_law_word (K : PySem.W.Frag) (w : World) (A : Adr) : TS :=
 (tSeq (tAsg (tC (.str "abcdefghijklmnopqrstuvwxyz")) (gName 2))
 (tSeq (tAsg (tCall (sp_law_draw K) [] E0 (tCons (tVar 0) (tCons (tC (.int 8)) tNil))) (gName 3))
 (tSeq (tIfS (tAnd (tTruth K (tVar 1)) (tTest (tOp rLtI (tVar 3) (tC (.int 2)))))
 (tRet (tOp (rIxL K) (tVar 1) (tCall (sp_law_draw K) [] E0 (tCons (tVar 0) (tCons (tCB (rLenS K) (tCons (tVar 1) tNil)) tNil)))))
 tNext)
 (tSeq (tAsg (tOp rAddI (tC (.int 1)) (tCall (sp_law_draw K) [] E0 (tCons (tVar 0) (tCons (tC (.int 12)) tNil)))) (gName 4))
 (tSeq (tAsg (tM1 (rJoin K) (tC (.str "")) (tLc (iRng1 (tCons (tVar 4) tNil)) (gName 7) tYes (tOp rIxS (tVar 2) (tCall (sp_law_draw K) [] E0 (tCons (tVar 0) (tCons (tC (.int 26)) tNil)))) [7])) (gName 5))
 (tSeq (tIfS (tAnd (tTruth K (tVar 1)) (tTest (tOp rEq (tVar 3) (tC (.int 2)))))
 (tSeq (tAsg (tOp (rIxL K) (tVar 1) (tCall (sp_law_draw K) [] E0 (tCons (tVar 0) (tCons (tCB (rLenS K) (tCons (tVar 1) tNil)) tNil)))) (gName 6))
 (tIfS (tTest (tOp rLtI (tCB rLenT (tCons (tVar 6) tNil)) (tC (.int 12))))
 (tAsg (tOp rAddS (tVar 6) (tOp rIxS (tVar 5) (tC (.int 0)))) (gName 5))
 tNext))
 tNext)
 (tSeq (tIfS (tTest (tOp rEq (tVar 3) (tC (.int 3))))
 (tAsg (tOp rAddS (tOp (rIxL K) (tCall (sp_law_reserved K) [] E0 tNil) (tCall (sp_law_draw K) [] E0 (tCons (tVar 0) (tCons (tC (.int 21)) tNil)))) (tOp rIxS (tVar 5) (tC (.int 0)))) (gName 5))
 tNext)
 (tSeq (tIfS (tTest (tOp (rIn K false) (tVar 5) (tCall (sp_law_reserved K) [] E0 tNil)))
 (tAsg (tOp rAddS (tVar 5) (tC (.str "q"))) (gName 5))
 tNext)
 (tSeq (tIfS (tAnd (tTest (tOp rLtI (tCB (rLenS K) (tCons (tVar 1) tNil)) (tC (.int 12)))) (tTest (tOp (rIn K true) (tVar 5) (tVar 1))))
 (tDrop (tBM K "list" rAppend (tVar 1) (tCons (tVar 5) tNil)))
 tNext)
 (tRet (tVar 5)))))))))))
def t_law_value (K : PySem.W.Frag) (w : World) (A : Adr) : TS :=
 (tSeq (tAsg (tCall (sp_law_draw K) [] E0 (tCons (tVar 0) (tCons (tC (.int 5)) tNil))) (gName 2))
 (tSeq (tIfS (tTest (tOp rEq (tVar 2) (tC (.int 0))))
 (tRet (tC .non))
 tNext)
 (tSeq (tIfS (tTest (tOp rEq (tVar 2) (tC (.int 1))))
 (tRet (tTup (tCons (tC (.str "fn")) (tCons (tCall (sp_law_word K) [] E0 (tCons (tVar 0) (tCons (tVar 1) tNil))) tNil))))
 tNext)
 (tSeq (tIfS (tTest (tOp rEq (tVar 2) (tC (.int 2))))
 (tRet (tOp (rIxL K) (tLst (tCons (tC (.str "")) (tCons (tC (.str "nil")) (tCons (tC (.str "x = 1;")) (tCons (tOp rMulS (tC (.str "abc")) (tC (.int 20))) tNil))))) (tCall (sp_law_draw K) [] E0 (tCons (tVar 0) (tCons (tC (.int 4)) tNil)))))
 tNext)
 (tRet (tCall (sp_law_draw K) [] E0 (tCons (tVar 0) (tCons (tOp rPowI (tC (.int 10)) (tC (.int 12))) tNil))))))))
def t_law_row (K : PySem.W.Frag) (w : World) (A : Adr) : TS :=
 (tSeq (tAsg (tCall (sp_law_draw K) [] E0 (tCons (tVar 0) (tCons (tVar 3) tNil))) (gName 5))
 (tSeq (tAsg (tCall (sp_law_draw K) [] E0 (tCons (tVar 0) (tCons (tVar 3) tNil))) (gName 6))
 (tSeq (tAsg (tCall (sp_law_draw K) [] E0 (tCons (tVar 0) (tCons (tVar 3) tNil))) (gName 7))
 (tSeq (tAsg (tCall (sp_law_word K) [] E0 (tCons (tVar 0) (tCons (tVar 4) tNil))) (gName 8))
 (tSeq (tAsg (tCB (rTupOf K) (tCons (tLc (iRng1 (tCons (tOp (rIxL K) (tLst (tCons (tC (.int 0)) (tCons (tC (.int 1)) (tCons (tC (.int 2)) (tCons (tC (.int 3)) (tCons (tC (.int 5)) tNil)))))) (tCall (sp_law_draw K) [] E0 (tCons (tVar 0) (tCons (tC (.int 5)) tNil)))) tNil)) (gName 11) tYes (tCall (sp_law_draw K) [] E0 (tCons (tVar 0) (tCons (tVar 3) tNil))) [11]) tNil)) (gName 9))
 (tSeq (tIfS (tTest (tOp rEq (tVar 1) (tC (.str "const"))))
 (tRet (tTup (tCons (tC (.str "const")) (tCons (tVar 5) (tCons (tCall (sp_law_value K) [] E0 (tCons (tVar 0) (tCons (tVar 4) tNil))) tNil)))))
 tNext)
 (tSeq (tIfS (tTest (tOp (rIn K false) (tVar 1) (tLst (tCons (tC (.str "move")) (tCons (tC (.str "not")) (tCons (tC (.str "array")) (tCons (tC (.str "len")) tNil)))))))
 (tRet (tTup (tCons (tVar 1) (tCons (tVar 5) (tCons (tVar 6) tNil)))))
 tNext)
 (tSeq (tIfS (tTest (tOp rEq (tVar 1) (tC (.str "op"))))
 (tSeq (tAsg (tLst (tCons (tC (.str "add")) (tCons (tC (.str "div")) (tCons (tC (.str "eq")) (tCons (tC (.str "le")) (tCons (tC (.str "lt")) (tCons (tC (.str "mod")) (tCons (tC (.str "mul")) (tCons (tC (.str "sub")) tNil))))))))) (gName 10))
 (tRet (tTup (tCons (tC (.str "op")) (tCons (tOp (rIxL K) (tVar 10) (tCall (sp_law_draw K) [] E0 (tCons (tVar 0) (tCons (tC (.int 8)) tNil)))) (tCons (tVar 5) (tCons (tVar 6) (tCons (tVar 7) tNil))))))))
 tNext)
 (tSeq (tIfS (tTest (tOp rEq (tVar 1) (tC (.str "jump"))))
 (tRet (tTup (tCons (tC (.str "jump")) (tCons (tCall (sp_law_draw K) [] E0 (tCons (tVar 0) (tCons (tVar 2) tNil))) tNil))))
 tNext)
 (tSeq (tIfS (tTest (tOp rEq (tVar 1) (tC (.str "branch"))))
 (tRet (tTup (tCons (tC (.str "branch")) (tCons (tVar 5) (tCons (tCall (sp_law_draw K) [] E0 (tCons (tVar 0) (tCons (tVar 2) tNil))) tNil)))))
 tNext)
 (tSeq (tIfS (tTest (tOp (rIn K false) (tVar 1) (tLst (tCons (tC (.str "getg")) (tCons (tC (.str "new")) (tCons (tC (.str "drop")) tNil))))))
 (tRet (tTup (tCons (tVar 1) (tCons (tVar 5) (tCons (tVar 8) tNil)))))
 tNext)
 (tSeq (tIfS (tTest (tOp rEq (tVar 1) (tC (.str "setg"))))
 (tRet (tTup (tCons (tC (.str "setg")) (tCons (tVar 8) (tCons (tVar 5) tNil)))))
 tNext)
 (tSeq (tIfS (tTest (tOp rEq (tVar 1) (tC (.str "get"))))
 (tRet (tTup (tCons (tC (.str "get")) (tCons (tVar 5) (tCons (tVar 6) (tCons (tVar 8) tNil))))))
 tNext)
 (tSeq (tIfS (tTest (tOp rEq (tVar 1) (tC (.str "put"))))
 (tRet (tTup (tCons (tC (.str "put")) (tCons (tVar 5) (tCons (tVar 8) (tCons (tVar 6) tNil))))))
 tNext)
 (tSeq (tIfS (tTest (tOp (rIn K false) (tVar 1) (tLst (tCons (tC (.str "at")) (tCons (tC (.str "setat")) tNil)))))
 (tRet (tTup (tCons (tVar 1) (tCons (tVar 5) (tCons (tVar 6) (tCons (tVar 7) tNil))))))
 tNext)
 (tSeq (tIfS (tTest (tOp rEq (tVar 1) (tC (.str "call"))))
 (tRet (tTup (tCons (tC (.str "call")) (tCons (tVar 5) (tCons (tVar 8) (tCons (tVar 9) tNil))))))
 tNext)
 (tSeq (tIfS (tTest (tOp rEq (tVar 1) (tC (.str "callv"))))
 (tRet (tTup (tCons (tC (.str "callv")) (tCons (tVar 5) (tCons (tVar 6) (tCons (tVar 9) tNil))))))
 tNext)
 (tSeq (tIfS (tTest (tOp rEq (tVar 1) (tC (.str "method"))))
 (tRet (tTup (tCons (tC (.str "method")) (tCons (tVar 5) (tCons (tVar 6) (tCons (tVar 8) (tCons (tVar 9) tNil)))))))
 tNext)
 (tSeq (tIfS (tTest (tOp rEq (tVar 1) (tC (.str "spawn"))))
 (tRet (tTup (tCons (tC (.str "spawn")) (tCons (tVar 8) (tCons (tVar 9) tNil)))))
 tNext)
 (tSeq (tIfS (tTest (tOp rEq (tVar 1) (tC (.str "pause"))))
 (tRet (tTup (tCons (tC (.str "pause")) tNil)))
 tNext)
 (tRet (tTup (tCons (tVar 1) (tCons (tVar 5) tNil))))))))))))))))))))))))
def t_law_words (K : PySem.W.Frag) (w : World) (A : Adr) : TS :=
 (tSeq (tAsg (tLst (tCons (tC (.str "const")) (tCons (tC (.str "move")) (tCons (tC (.str "op")) (tCons (tC (.str "not")) (tCons (tC (.str "jump")) (tCons (tC (.str "branch")) (tCons (tC (.str "getg")) (tCons (tC (.str "setg")) (tCons (tC (.str "new")) (tCons (tC (.str "get")) (tCons (tC (.str "put")) (tCons (tC (.str "drop")) tNil))))))))))))) (gName 0))
 (tSeq (tAsg (tOp rCat (tVar 0) (tLst (tCons (tC (.str "array")) (tCons (tC (.str "at")) (tCons (tC (.str "setat")) (tCons (tC (.str "len")) (tCons (tC (.str "call")) (tCons (tC (.str "callv")) (tCons (tC (.str "method")) (tCons (tC (.str "return")) (tCons (tC (.str "say")) (tCons (tC (.str "fail")) tNil)))))))))))) (gName 0))
 (tRet (tOp rCat (tVar 0) (tLst (tCons (tC (.str "load")) (tCons (tC (.str "spawn")) (tCons (tC (.str "pause")) tNil))))))))
def t_law_drawn (K : PySem.W.Frag) (w : World) (A : Adr) : TS :=
 (tSeq (tAsg (tOp rCat (tCall (sp_law_words K) [] E0 tNil) (tLst (tCons (tC (.str "branch")) (tCons (tC (.str "branch")) (tCons (tC (.str "branch")) (tCons (tC (.str "jump")) (tCons (tC (.str "jump")) (tCons (tC (.str "move")) (tCons (tC (.str "op")) tNil))))))))) (gName 2))
 (tSeq (tAsg (tOp rAddI (tC (.int 1)) (tCall (sp_law_draw K) [] E0 (tCons (tVar 0) (tCons (tC (.int 10)) tNil)))) (gName 3))
 (tSeq (tAsg (tOp rAddI (tOp (rIxL K) (tLst (tCons (tC (.int 1)) (tCons (tC (.int 2)) (tCons (tC (.int 4)) (tCons (tC (.int 7)) (tCons (tC (.int 12)) (tCons (tC (.int 28)) tNil))))))) (tCall (sp_law_draw K) [] E0 (tCons (tVar 0) (tCons (tC (.int 6)) tNil)))) (tCall (sp_law_draw K) [] E0 (tCons (tVar 0) (tCons (tC (.int 3)) tNil)))) (gName 4))
 (tSeq (tAsg (tLc (iRng1 (tCons (tOp rSubI (tVar 4) (tC (.int 1))) tNil)) (gName 5) tYes (tCall (sp_law_row K) [] E0 (tCons (tVar 0) (tCons (tOp (rIxL K) (tVar 2) (tCall (sp_law_draw K) [] E0 (tCons (tVar 0) (tCons (tC (.int 32)) tNil)))) (tCons (tVar 4) (tCons (tVar 3) (tCons (tVar 1) tNil)))))) [5]) (gName 6))
 (tSeq (tDrop (tBM K "list" rAppend (tVar 6) (tCons (tCall (sp_law_row K) [] E0 (tCons (tVar 0) (tCons (tOp (rIxL K) (tLst (tCons (tC (.str "jump")) (tCons (tC (.str "return")) (tCons (tC (.str "fail")) tNil)))) (tCall (sp_law_draw K) [] E0 (tCons (tVar 0) (tCons (tC (.int 3)) tNil)))) (tCons (tVar 4) (tCons (tVar 3) (tCons (tVar 1) tNil)))))) tNil)))
 (tSeq (tAsg (tLst tNil) (gName 7))
 (tSeq (tFor (iRng1 (tCons (tOp (rIxL K) (tLst (tCons (tC (.int 0)) (tCons (tC (.int 1)) (tCons (tC (.int 2)) (tCons (tC (.int 4)) tNil))))) (tCall (sp_law_draw K) [] E0 (tCons (tVar 0) (tCons (tC (.int 4)) tNil)))) tNil)) (gName 5)
 (tSeq (tAsg (tCall (sp_law_draw K) [] E0 (tCons (tVar 0) (tCons (tVar 4) tNil))) (gName 8))
 (tSeq (tAsg (tOp rAddI (tVar 8) (tCall (sp_law_draw K) [] E0 (tCons (tVar 0) (tCons (tOp rAddI (tOp rSubI (tVar 4) (tVar 8)) (tC (.int 1))) tNil)))) (gName 9))
 (tDrop (tBM K "list" rAppend (tVar 7) (tCons (tTup (tCons (tVar 8) (tCons (tVar 9) (tCons (tCall (sp_law_draw K) [] E0 (tCons (tVar 0) (tCons (tVar 4) tNil))) (tCons (tCall (sp_law_draw K) [] E0 (tCons (tVar 0) (tCons (tVar 3) tNil))) tNil))))) tNil))))))
 (tSeq (tIfS (tTest (tOp rGtI (tCB (rLenS K) (tCons (tVar 7) tNil)) (tC (.int 2))))
 (tDrop (tBM K "list" rAppend (tVar 7) (tCons (tOp (rIxL K) (tVar 7) (tCall (sp_law_draw K) [] E0 (tCons (tVar 0) (tCons (tC (.int 2)) tNil)))) tNil)))
 tNext)
 (tRet (tLst (tCons (tCall (sp_law_word K) [] E0 (tCons (tVar 0) (tCons (tVar 1) tNil))) (tCons (tCall (sp_law_draw K) [] E0 (tCons (tVar 0) (tCons (tOp rAddI (tVar 3) (tC (.int 1))) tNil))) (tCons (tVar 3) (tCons (tVar 6) (tCons (tVar 7) tNil)))))))))))))))
def t_law_read (K : PySem.W.Frag) (w : World) (A : Adr) : TS :=
 (tSeq (tAsg (tOp (rIxT K) (tVar 0) (tC (.int 0))) (gName 1))
 (tSeq (tIfS (tTest (tOp (rIn K false) (tVar 1) (tLst (tCons (tC (.str "call")) (tCons (tC (.str "spawn")) tNil)))))
 (tRet (tCB (rListOf K) (tCons (tOp (rIxT K) (tVar 0) (tUn (rU fun i => .int (-i)) (tC (.int 1)))) tNil)))
 tNext)
 (tSeq (tIfS (tTest (tOp (rIn K false) (tVar 1) (tLst (tCons (tC (.str "callv")) (tCons (tC (.str "method")) tNil)))))
 (tRet (tOp rCat (tLst (tCons (tOp (rIxT K) (tVar 0) (tC (.int 2))) tNil)) (tCB (rListOf K) (tCons (tOp (rIxT K) (tVar 0) (tUn (rU fun i => .int (-i)) (tC (.int 1)))) tNil))))
 tNext)
 (tSeq (tAsg (tDisp [((tC (.str "move")), (tLst (tCons (tC (.int 2)) tNil))), ((tC (.str "op")), (tLst (tCons (tC (.int 3)) (tCons (tC (.int 4)) tNil)))), ((tC (.str "not")), (tLst (tCons (tC (.int 2)) tNil))), ((tC (.str "branch")), (tLst (tCons (tC (.int 1)) tNil))), ((tC (.str "setg")), (tLst (tCons (tC (.int 2)) tNil))), ((tC (.str "get")), (tLst (tCons (tC (.int 2)) tNil))), ((tC (.str "put")), (tLst (tCons (tC (.int 1)) (tCons (tC (.int 3)) tNil))))]) (gName 2))
 (tSeq (tAsg (tDisp [((tC (.str "drop")), (tLst (tCons (tC (.int 1)) tNil))), ((tC (.str "array")), (tLst (tCons (tC (.int 2)) tNil))), ((tC (.str "at")), (tLst (tCons (tC (.int 2)) (tCons (tC (.int 3)) tNil)))), ((tC (.str "setat")), (tLst (tCons (tC (.int 1)) (tCons (tC (.int 2)) (tCons (tC (.int 3)) tNil))))), ((tC (.str "len")), (tLst (tCons (tC (.int 2)) tNil))), ((tC (.str "return")), (tLst (tCons (tC (.int 1)) tNil)))]) (gName 3))
 (tSeq (tIfS (tB (tDIn (tVar 1) (tVar 2)))
 (tRet (tLc (iList K (tDGet (tVar 2) (tVar 1))) (gName 4) tYes (tOp (rIxT K) (tVar 0) (tVar 4)) [4]))
 tNext)
 (tSeq (tIfS (tB (tDIn (tVar 1) (tVar 3)))
 (tRet (tLc (iList K (tDGet (tVar 3) (tVar 1))) (gName 4) tYes (tOp (rIxT K) (tVar 0) (tVar 4)) [4]))
 tNext)
 (tSeq (tIfS (tTest (tOp (rIn K false) (tVar 1) (tLst (tCons (tC (.str "say")) (tCons (tC (.str "fail")) (tCons (tC (.str "load")) tNil))))))
 (tRet (tLst (tCons (tOp (rIxT K) (tVar 0) (tC (.int 1))) tNil)))
 tNext)
 (tRet (tLst tNil))))))))))
def t_law_written (K : PySem.W.Frag) (w : World) (A : Adr) : TS :=
 (tSeq (tIfS (tTest (tOp rEq (tOp (rIxT K) (tVar 0) (tC (.int 0))) (tC (.str "op"))))
 (tRet (tOp (rIxT K) (tVar 0) (tC (.int 2))))
 tNext)
 (tSeq (tAsg (tLst (tCons (tC (.str "const")) (tCons (tC (.str "move")) (tCons (tC (.str "not")) (tCons (tC (.str "getg")) (tCons (tC (.str "new")) (tCons (tC (.str "get")) (tCons (tC (.str "array")) (tCons (tC (.str "at")) (tCons (tC (.str "len")) (tCons (tC (.str "call")) (tCons (tC (.str "callv")) (tCons (tC (.str "method")) tNil))))))))))))) (gName 1))
 (tSeq (tIfS (tTest (tOp (rIn K false) (tOp (rIxT K) (tVar 0) (tC (.int 0))) (tVar 1)))
 (tRet (tOp (rIxT K) (tVar 0) (tC (.int 1))))
 tNext)
 (tRet (tC .non)))))
def t_law_later (K : PySem.W.Frag) (w : World) (A : Adr) : TS :=
 (tSeq (tAsg (tOp (rIxT K) (tOp (rIxL K) (tVar 0) (tVar 1)) (tC (.int 0))) (gName 2))
 (tSeq (tIfS (tTest (tOp (rIn K false) (tVar 2) (tLst (tCons (tC (.str "return")) (tCons (tC (.str "fail")) tNil)))))
 (tRet (tLst tNil))
 tNext)
 (tSeq (tIfS (tTest (tOp rEq (tVar 2) (tC (.str "jump"))))
 (tRet (tLst (tCons (tOp (rIxT K) (tOp (rIxL K) (tVar 0) (tVar 1)) (tC (.int 1))) tNil)))
 tNext)
 (tSeq (tIfS (tAnd (tTest (tOp rEq (tVar 2) (tC (.str "branch")))) (tTest (tOp rNe (tOp (rIxT K) (tOp (rIxL K) (tVar 0) (tVar 1)) (tC (.int 2))) (tOp rAddI (tVar 1) (tC (.int 1))))))
 (tRet (tCB (rSortedI K) (tCons (tLst (tCons (tOp rAddI (tVar 1) (tC (.int 1))) (tCons (tOp (rIxT K) (tOp (rIxL K) (tVar 0) (tVar 1)) (tC (.int 2))) tNil))) tNil)))
 tNext)
 (tRet (tLst (tCons (tOp rAddI (tVar 1) (tC (.int 1))) tNil)))))))
def t_law_catcher (K : PySem.W.Frag) (w : World) (A : Adr) : TS :=
 (tSeq (tFor (iList K (tVar 0)) (gName 2)
 (tIfS (tAnd (tTest (tOp rLeI (tOp (rIxT K) (tVar 2) (tC (.int 0))) (tVar 1))) (tTest (tOp rLtI (tVar 1) (tOp (rIxT K) (tVar 2) (tC (.int 1))))))
 (tRet (tVar 2))
 tNext))
 (tRet (tC .non)))
def t_law_same (n : Nat) (K : PySem.W.Frag) (w : World) (A : Adr) : TS :=
 (tSeq (tIfS (tOr (tB (tCB (rIsi K) (tCons (tVar 1) (tCons (tC (.ty "list")) tNil)))) (tB (tCB (rIsi K) (tCons (tVar 1) (tCons (tC (.ty "tuple")) tNil)))))
 (tSeq (tIfS (tAnd (tB (tCB (rIsi K) (tCons (tVar 1) (tCons (tC (.ty "list")) tNil)))) (tNot (tB (tCB (rIsi K) (tCons (tVar 0) (tCons (tC (.ty "list")) tNil))))))
 (tRet (tC (.bl false)))
 tNext)
 (tSeq (tIfS (tAnd (tB (tCB (rIsi K) (tCons (tVar 1) (tCons (tC (.ty "tuple")) tNil)))) (tNot (tB (tCB (rIsi K) (tCons (tVar 0) (tCons (tC (.ty "tuple")) tNil))))))
 (tRet (tC (.bl false)))
 tNext)
 (tRet (tAndV (tOp rEq (tCB (rLenS K) (tCons (tVar 0) tNil)) (tCB (rLenS K) (tCons (tVar 1) tNil))) (tCB (rAll K) (tCons (tLc (iRng1 (tCons (tCB (rLenS K) (tCons (tVar 1) tNil)) tNil)) (gName 2) tYes (tCall (sp_law_same n K) [] E0 (tCons (tOp (rIxQ K) (tVar 0) (tVar 2)) (tCons (tOp (rIxQ K) (tVar 1) (tVar 2)) tNil))) [2]) tNil))))))
 tNext)
 (tSeq (tIfS (tTest (tOp rIsN0 (tVar 1) (tC .non)))
 (tRet (tOp rIsN0 (tVar 0) (tC .non)))
 tNext)
 (tSeq (tIfS (tB (tCB (rIsi K) (tCons (tVar 1) (tCons (tC (.ty "str")) tNil))))
 (tRet (tAndV (tCB (rIsi K) (tCons (tVar 0) (tCons (tC (.ty "str")) tNil))) (tOp rEq (tVar 0) (tVar 1))))
 tNext)
 (tRet (tAndV (tCB (rIsi K) (tCons (tVar 0) (tCons (tC (.ty "int")) tNil))) (tAndV (tNotV (tCB (rIsi K) (tCons (tVar 0) (tCons (tC (.ty "bool")) tNil)))) (tOp rEq (tVar 0) (tVar 1))))))))
def t_law_row_agrees (K : PySem.W.Frag) (w : World) (A : Adr) : TS :=
 (tSeq (tAsg (tCall (sp_law_read K) [] E0 (tCons (tVar 0) tNil)) (gName 2))
 (tSeq (tIfS (tNot (tB (tCall (sp_law_same 5 K) [] E0 (tCons (tCall (sp_uses K) [] E0 (tCons (tVar 0) tNil)) (tCons (tLc (iRng1 (tCons (tVar 1) tNil)) (gName 3) (tTest (tOp (rIn K false) (tVar 3) (tVar 2))) (tVar 3) [3]) tNil)))))
 (tRet (tC (.bl false)))
 tNext)
 (tRet (tCall (sp_law_same 5 K) [] E0 (tCons (tCall (sp_target K) [] E0 (tCons (tVar 0) tNil)) (tCons (tCall (sp_law_written K) [] E0 (tCons (tVar 0) tNil)) tNil))))))
def t_law_loops (K : PySem.W.Frag) (w : World) (A : Adr) : TS :=
 (tSeq (tAsg (tLst tNil) (gName 1))
 (tSeq (tFor (iRng1 (tCons (tCB (rLenS K) (tCons (tVar 0) tNil)) tNil)) (gName 2)
 (tIfS (tTest (tOp (rInD K) (tTup (tCons (tC (.str "jump")) (tCons (tVar 2) tNil))) (tSl (rSlL K) (tVar 0) (tPart (tVar 2)) tNoPart)))
 (tDrop (tBM K "list" rAppend (tVar 1) (tCons (tVar 2) tNil)))
 tNext))
 (tRet (tVar 1))))
def t_law_has (K : PySem.W.Frag) (w : World) (A : Adr) : TS :=
 (tRet (tCall (sp_law_same 5 K) [] E0 (tCons (tLst (tCons (tFld K (tVar 0) "name") (tCons (tFld K (tVar 0) "params") (tCons (tFld K (tVar 0) "size") (tCons (tFld K (tVar 0) "rows") (tCons (tFld K (tVar 0) "handlers") tNil)))))) (tCons (tVar 1) tNil))))
def t_law (K : PySem.W.Frag) (w : World) (A : Adr) : TS :=
 (tSeq (tAsg (tCall (sp_law_box K) [] E0 (tCons (tVar 0) tNil)) (gName 1))
 (tSeq (tAsg (tLst tNil) (gName 2))
 (tSeq (tAsg (tLst (tCons (tCall (sp_law_drawn K) [] E0 (tCons (tVar 1) (tCons (tVar 2) tNil))) (tCons (tCall (sp_law_drawn K) [] E0 (tCons (tVar 1) (tCons (tVar 2) tNil))) tNil))) (gName 3))
 (tSeq (tAsg (tLst tNil) (gName 4))
 (tSeq (tFor (iList K (tVar 3)) (gName 5)
 (tSeq (tAsg (tCB (rListOf K) (tCons (tOp (rIxL K) (tVar 5) (tC (.int 3))) tNil)) (gName 6))
 (tSeq (tAsg (tCB (rListOf K) (tCons (tOp (rIxL K) (tVar 5) (tC (.int 4))) tNil)) (gName 7))
 (tSeq (tDrop (tBM K "list" rAppend (tVar 4) (tCons (tMake A.C_Code (sp_Code_init K) [] E0 (tCons (tOp (rIxL K) (tVar 5) (tC (.int 0))) (tCons (tOp (rIxL K) (tVar 5) (tC (.int 1))) (tCons (tOp (rIxL K) (tVar 5) (tC (.int 2))) (tCons (tVar 6) (tCons (tVar 7) tNil)))))) tNil)))
 (tSeq (tDrop (tBM0 K "list" rClear (tVar 6)))
 (tDrop (tBM K "list" rAppend (tVar 7) (tCons (tTup (tCons (tC (.int 0)) (tCons (tC (.int 1)) (tCons (tC (.int 0)) (tCons (tC (.int 0)) tNil))))) tNil))))))))
 (tSeq (tFor (iList K (tCall (sp_law_words K) [] E0 tNil)) (gName 8)
 (tIfS (tNot (tB (tCall (sp_law_row_agrees K) [] E0 (tCons (tCall (sp_law_row K) [] E0 (tCons (tVar 1) (tCons (tVar 8) (tCons (tC (.int 9)) (tCons (tC (.int 10)) (tCons (tVar 2) tNil)))))) (tCons (tC (.int 10)) tNil)))))
 (tRet (tC (.bl false)))
 tNext))
 (tSeq (tFor (iList K (tLst (tCons (tC (.int 0)) (tCons (tC (.int 1)) (tCons (tC (.int 0)) tNil))))) (gName 9)
 (tSeq (tAsg (tOp (rIxL K) (tVar 4) (tVar 9)) (gName 10))
 (tSeq (tAsg (tOp (rIxL K) (tVar 3) (tVar 9)) (gName 5))
 (tSeq (tFor (iRng1 (tCons (tCB (rLenS K) (tCons (tOp (rIxL K) (tVar 5) (tC (.int 3))) tNil)) tNil)) (gName 11)
 (tSeq (tIfS (tNot (tB (tCall (sp_law_row_agrees K) [] E0 (tCons (tOp (rIxL K) (tOp (rIxL K) (tVar 5) (tC (.int 3))) (tVar 11)) (tCons (tOp (rIxL K) (tVar 5) (tC (.int 2))) tNil)))))
 (tRet (tC (.bl false)))
 tNext)
 (tSeq (tIfS (tNot (tB (tCall (sp_law_same 5 K) [] E0 (tCons (tCall (sp_following K) [] E0 (tCons (tVar 10) (tCons (tVar 11) tNil))) (tCons (tCall (sp_law_later K) [] E0 (tCons (tOp (rIxL K) (tVar 5) (tC (.int 3))) (tCons (tVar 11) tNil))) tNil)))))
 (tRet (tC (.bl false)))
 tNext)
 (tIfS (tNot (tB (tCall (sp_law_same 5 K) [] E0 (tCons (tCall (sp_handler_at K) [] E0 (tCons (tVar 10) (tCons (tVar 11) tNil))) (tCons (tCall (sp_law_catcher K) [] E0 (tCons (tOp (rIxL K) (tVar 5) (tC (.int 4))) (tCons (tVar 11) tNil))) tNil)))))
 (tRet (tC (.bl false)))
 tNext))))
 (tSeq (tIfS (tNot (tB (tCall (sp_law_same 5 K) [] E0 (tCons (tCall (sp_heads K) [] E0 (tCons (tVar 10) tNil)) (tCons (tCall (sp_law_loops K) [] E0 (tCons (tOp (rIxL K) (tVar 5) (tC (.int 3))) tNil)) tNil)))))
 (tRet (tC (.bl false)))
 tNext)
 (tSeq (tAsg (tCall (sp_told_code K) [] E0 (tCons (tVar 10) tNil)) (gName 12))
 (tSeq (tIfS (tNot (tB (tCall (sp_law_same 5 K) [] E0 (tCons (tVar 12) (tCons (tTup (tCons (tOp (rIxL K) (tVar 5) (tC (.int 0))) (tCons (tOp (rIxL K) (tVar 5) (tC (.int 1))) (tCons (tOp (rIxL K) (tVar 5) (tC (.int 2))) (tCons (tCB (rTupOf K) (tCons (tOp (rIxL K) (tVar 5) (tC (.int 3))) tNil)) (tCons (tCB (rTupOf K) (tCons (tOp (rIxL K) (tVar 5) (tC (.int 4))) tNil)) tNil)))))) tNil)))))
 (tRet (tC (.bl false)))
 tNext)
 (tSeq (tAsg (tCall (sp_code_of K) [] E0 (tCons (tVar 12) tNil)) (gName 13))
 (tIfS (tOr (tNot (tB (tCall (sp_law_has K) [] E0 (tCons (tVar 13) (tCons (tVar 5) tNil))))) (tOr (tNot (tB (tCall (sp_law_has K) [] E0 (tCons (tVar 10) (tCons (tVar 5) tNil))))) (tTest (tOp (rNeD K) (tCall (sp_told_code K) [] E0 (tCons (tVar 13) tNil)) (tVar 12)))))
 (tRet (tC (.bl false)))
 tNext)))))))))
 (tRet (tC (.bl true))))))))))
end LW
section
open PySem PySem.Spec PyProof.Rows L2 Rf
local macro_rules | `(tactic| walk_at "ne") => `(tactic| first | assumption | exact Ne.symm (by assumption) | ((refine' ne_of_none ?na ?nb); (case nb => assumption); (case na => walk_at "look")) | ((refine' Ne.symm (ne_of_none ?na ?nb)); (case nb => assumption); (case na => walk_at "look")))
local macro_rules | `(tactic| walk_at "look") => `(tactic| first | assumption | exact upd_same | ((refine' upd_ne' ?gn ?gk); (case gn => walk_at "ne"); (case gk => walk_at "look")))
local macro_rules | `(tactic| walk_at "seqL") => `(tactic| first | assumption | (apply sqL; walk_at "look"))
local macro_rules | `(tactic| walk_at "seqT") => `(tactic| first | assumption | (apply sqT; walk_at "look"))
local macro_rules | `(tactic| walk_at "rd") => `(tactic| first | assumption | (apply rdO; walk_at "look"))
local macro_rules | `(tactic| walk_at "cmul") => `(tactic| first | exact Or.inr ⟨by decide, by decide⟩ | exact Or.inl ⟨by decide, by decide⟩ | exact Or.inl ⟨by omega, by omega⟩ | exact Or.inr ⟨by omega, by omega⟩)
local macro_rules | `(tactic| walk_at "pos") => `(tactic| first | decide | assumption | omega)
local macro_rules | `(tactic| walk_at "size") => `(tactic| first | exact sz (by simp only [List.length_cons, List.length_nil, List.length_append, List.length_map]; omega) | exact sz (by simp; omega))
local macro_rules | `(tactic| walk_at "sizeL") => `(tactic| first | exact szL (by simp only [List.length_cons, List.length_nil, List.length_append, List.length_map]; omega) | exact szL (by simp; omega))
local macro_rules | `(tactic| walk_at "stm") => `(tactic| first
  | with_reducible refine' go_seq ?_
  | with_reducible refine' go_asgN ?_
  | with_reducible refine' go_asgS ?_
  | with_reducible refine' go_ifS ?_
  | with_reducible refine' go_ret ?_
  | with_reducible refine' go_drop ?_
  | with_reducible refine' go_next ?_
  | with_reducible refine' go_brk ?_
  | with_reducible refine' go_cont ?_
  | with_reducible refine' go_retN ?_
  | with_reducible refine' go_dput ?_
  | with_reducible refine' go_for ?_)
local macro_rules | `(tactic| walk_at "exp") => `(tactic| first
  | ((with_reducible refine' go_var ?gh ?_); (case gh => exact rfl))
  | with_reducible refine' go_c ?_
  | with_reducible refine' go_op ?_
  | with_reducible refine' go_test ?_
  | with_reducible refine' go_bl ?_
  | with_reducible refine' go_cb ?_
  | with_reducible refine' go_cons ?_
  | with_reducible refine' go_nil ?_
  | with_reducible refine' go_add ?_
  | with_reducible refine' go_sub ?_
  | ((with_reducible refine' go_mul ?gh ?_); (case gh => walk_at "cmul"))
  | ((with_reducible refine' go_mulW ?gh ?_); (case gh => exact cmulW (by omega) (by omega) (by omega) (by omega)))
  | ((with_reducible refine' go_divW ?gh ?_); (case gh => exact cdivW (by omega) (by omega)))
  | ((with_reducible refine' go_mod ?gh ?_); (case gh => walk_at "pos"))
  | ((with_reducible refine' go_div ?gh ?gi ?_); (case gh => walk_at "pos"); (case gi => walk_at "pos"))
  | ((with_reducible refine' go_pow ?gh ?_); (case gh => exact ⟨by decide, by decide, by decide⟩))
  | with_reducible refine' go_lt ?_
  | with_reducible refine' go_le ?_
  | with_reducible refine' go_gt ?_
  | with_reducible refine' go_ge ?_
  | with_reducible refine' go_eqI ?_
  | with_reducible refine' go_neI ?_
  | with_reducible refine' go_eqS ?_
  | with_reducible refine' go_neS ?_
  | with_reducible refine' go_isN ?_
  | with_reducible refine' go_isNi ?_
  | with_reducible refine' go_isNs ?_
  | with_reducible refine' go_isNr ?_
  | with_reducible refine' go_notN ?_
  | with_reducible refine' go_notNi ?_
  | with_reducible refine' go_notNs ?_
  | with_reducible refine' go_notNr ?_
  | with_reducible refine' go_tB ?_
  | with_reducible refine' go_tAnd ?_
  | with_reducible refine' go_tOr ?_
  | with_reducible refine' go_tNot ?_
  | with_reducible refine' go_andV ?_
  | with_reducible refine' go_orV ?_
  | with_reducible refine' go_notV ?_
  | with_reducible refine' go_tIf ?_
  | with_reducible refine' go_iteT ?_
  | with_reducible refine' go_iteF ?_
  | with_reducible refine' go_nT ?_
  | with_reducible refine' go_nF ?_
  | ((with_reducible refine' go_ixL ?gh ?gi ?_); (case gh => walk_at "seqL"); (case gi => exact rfl))
  | ((with_reducible refine' go_ixT ?gh ?gi ?_); (case gh => walk_at "seqT"); (case gi => exact rfl))
  | ((with_reducible refine' go_setL ?gh ?gi ?gj ?_); (case gh => walk_at "look"); (case gi => exact rfl); (case gj => (simp only [Int.reduceToNat, List.set_cons_succ, List.set_cons_zero]; try exact rfl)))
  | with_reducible refine' go_call ?_
  | with_reducible refine' go_bm ?_
  | with_reducible refine' go_bm0 ?_
  | ((with_reducible refine' go_tyL ?gh ?_); (case gh => walk_at "look"))
  | ((with_reducible refine' go_app ?gh ?gi ?_); (case gh => walk_at "look"); (case gi => walk_at "sizeL"))
  | ((with_reducible refine' go_lenL ?gh ?_); (case gh => walk_at "seqL"))
  | ((with_reducible refine' go_lenT ?gh ?_); (case gh => walk_at "seqT"))
  | ((with_reducible refine' go_lenD ?gh ?_); (case gh => walk_at "rd"))
  | with_reducible refine' go_int ?_
  | with_reducible refine' go_intB ?_
  | with_reducible refine' go_dget ?_
  | with_reducible refine' go_dinT ?_
  | with_reducible refine' go_dget1 ?_
  | with_reducible refine' go_dget2 ?_
  | with_reducible refine' go_dninT ?_
  | ((with_reducible refine' go_dnew ?_); intro _ _)
  | with_reducible refine' go_sl ?_
  | with_reducible refine' go_noPart ?_
  | with_reducible refine' go_part ?_
  | with_reducible refine' go_partI ?_
  | with_reducible refine' go_tup ?_
  | with_reducible refine' go_lst ?_
  | with_reducible refine' go_truth ?_
  | ((with_reducible refine' go_isi ?gh ?gi ?_); (case gh => walk_at "tyx"); (case gi => walk_at "kit"))
  | with_reducible refine' go_iList ?_
  | with_reducible refine' go_iTup ?_
  | with_reducible refine' go_iRng1 ?_
  | with_reducible refine' go_iRng2 ?_
  | with_reducible refine' go_lc ?_
  | with_reducible refine' go_gName ?_
  | ((with_reducible refine' go_gTup2 ?gh ?_); (case gh => walk_at "seqT"))
  | ((with_reducible refine' go_inI ?gh ?_); (case gh => walk_at "seqL"))
  | ((with_reducible refine' go_notInI ?gh ?_); (case gh => walk_at "seqL"))
  | ((with_reducible refine' go_listL ?gh ?_); (case gh => walk_at "seqL"); intro _ _)
  | ((with_reducible refine' go_listD ?gh ?_); (case gh => walk_at "look"); intro _ _)
  | ((with_reducible refine' go_sum ?gh ?_); (case gh => walk_at "seqL"))
  | ((with_reducible refine' go_slL ?gh ?_); (case gh => walk_at "seqL"); intro _ _)
  | ((with_reducible refine' go_alloc ?gh ?_); (case gh => walk_at "size"); intro _ _)
  | ((with_reducible refine' go_eqNil ?gh ?gi ?_); (case gh => walk_at "seqL"); (case gi => walk_at "seqL"))
  | ((with_reducible refine' go_dputI ?gh ?gi ?_); (case gh => walk_at "look"); (case gi => walk_at "sizeL"))
  | ((with_reducible refine' go_dputS ?gh ?gi ?_); (case gh => walk_at "look"); (case gi => walk_at "sizeL")))
local macro_rules | `(tactic| walk_at "tidy") => `(tactic| try (dsimp only [List.set_cons_succ, List.set_cons_zero, List.nil_append, List.append_nil, List.cons_append]))
local macro_rules | `(tactic| walk_at "go") => `(tactic| repeat (first | walk_at "stm" | walk_at "exp"))
local macro_rules | `(tactic| walk_at "free") => `(tactic| first | assumption | (refine Keep.free (S := []) ?_ (by assumption) (by simp); walk_at "keep"))
local macro_rules | `(tactic| walk_at "keep") => `(tactic| first | assumption | exact Keep.refl | ((with_reducible refine' Keep.upd ?gk ?gm); (case gm => simp; done); (case gk => walk_at "keep")) | ((with_reducible refine' Keep.trans ?gk (Keep.new ?gm)); (case gm => assumption); (case gk => walk_at "keep")) | ((with_reducible refine' Keep.fresh ?gk ?gm); (case gm => walk_at "free"); (case gk => walk_at "keep")) | ((refine' Keep.trans ?gk (by assumption)); walk_at "keep"))
local macro_rules | `(tactic| walk_at "tyx") => `(tactic| first | exact .base (.int _) | exact .base (.str _) | exact .base .non | exact .base (.bl _) | exact .base (.lst (by walk_at "look")) | exact .base (.tup (by walk_at "look")) | exact .base (.dK (by walk_at "look")))
local macro_rules | `(tactic| walk_at "kit") => `(tactic| first | exact kit_int_int | exact kit_int_bool | exact kit_int_str | exact kit_int_list | exact kit_int_tuple | exact kit_int_dict | exact kit_bool_int | exact kit_bool_bool | exact kit_bool_str | exact kit_bool_list | exact kit_bool_tuple | exact kit_bool_dict | exact kit_str_int | exact kit_str_bool | exact kit_str_str | exact kit_str_list | exact kit_str_tuple | exact kit_str_dict | exact kit_NoneType_int | exact kit_NoneType_bool | exact kit_NoneType_str | exact kit_NoneType_list | exact kit_NoneType_tuple | exact kit_NoneType_dict | exact kit_list_int | exact kit_list_bool | exact kit_list_str | exact kit_list_list | exact kit_list_tuple | exact kit_list_dict | exact kit_tuple_int | exact kit_tuple_bool | exact kit_tuple_str | exact kit_tuple_list | exact kit_tuple_tuple | exact kit_tuple_dict | exact kit_dict_int | exact kit_dict_bool | exact kit_dict_str | exact kit_dict_list | exact kit_dict_tuple | exact kit_dict_dict)
local macro_rules | `(tactic| walk_at "ex") => `(tactic| repeat (walk_at "exp"))
local macro_rules | `(tactic| walk_at "flds") => `(tactic| first | exact rfl | (simp [List.lookup]; done))
local macro_rules | `(tactic| walk_at "exp2") => `(tactic| first
  | with_reducible refine' go_m1 ?_
  | with_reducible refine' go_isS ?_
  | with_reducible refine' go_chain ?_
  | ((with_reducible refine' go_pop0 ?gh ?_); (case gh => walk_at "look"))
  | ((with_reducible refine' go_ins0 ?gh ?gi ?_); (case gh => walk_at "look"); (case gi => walk_at "sizeL"))
  | ((with_reducible refine' go_cat ?gh ?gi ?gj ?_); (case gh => walk_at "look"); (case gi => walk_at "look"); (case gj => walk_at "size"); intro _ _)
  | ((with_reducible refine' go_truL ?gh ?_); (case gh => walk_at "seqL"))
  | with_reducible refine' go_tfld ?_
  | with_reducible refine' go_sfld ?_
  | with_reducible refine' go_make ?_
  | ((with_reducible refine' go_inS ?gh ?_); (case gh => walk_at "seqL"))
  | ((with_reducible refine' go_ninS ?gh ?_); (case gh => walk_at "seqL"))
  | ((with_reducible refine' go_clear ?gh ?_); (case gh => walk_at "look"))
  | with_reducible refine' go_orI ?_
  | with_reducible refine' go_andI ?_
  | with_reducible refine' go_bits ?_
  | with_reducible refine' go_getW ?_)
local macro_rules | `(tactic| walk_at "go") => `(tactic| repeat (first | walk_at "stm" | walk_at "exp" | walk_at "exp2"))
local macro_rules | `(tactic| walk_at "ex") => `(tactic| repeat (first | walk_at "exp" | walk_at "exp2"))
local macro_rules | `(tactic| walk_at "seqT") => `(tactic| first | assumption | (apply sqT; walk_at "look") | ((refine' sqT_upd ?ga ?gb); (case gb => assumption); (case ga => walk_at "seqT")))
local macro_rules | `(tactic| walk_at "seqL") => `(tactic| first | assumption | (apply sqL; walk_at "look") | ((refine' sqL_upd ?ga ?gb); (case gb => assumption); (case ga => walk_at "seqL")))
local macro_rules | `(tactic| walk_at "dec") => `(tactic| first | refine go_ite_t (by decide +kernel) ?_ | refine go_ite_f (by decide +kernel) ?_ | refine go_ite_nt (by decide +kernel) ?_ | refine go_ite_nf (by decide +kernel) ?_)
local macro_rules | `(tactic| walk_at "inn") => `(tactic| first | refine go_inV (r := true) (by walk_at "seqL") rfl (by decide +kernel) ?_ | refine go_inV (r := false) (by walk_at "seqL") rfl (by decide +kernel) ?_ | refine go_inVT (r := true) (by walk_at "seqT") rfl (by decide +kernel) ?_ | refine go_inVT (r := false) (by walk_at "seqT") rfl (by decide +kernel) ?_)
local macro_rules | `(tactic| walk_at "auto") => `(tactic| repeat (first | walk_at "stm" | walk_at "exp" | walk_at "exp2" | walk_at "dec" | walk_at "inn"))
section
namespace LW
open CM
open PySem.PyData (strOk)
variable {K : PySem.W.Frag} {w : World} {mg : Str → Option Value} {A : Adr}
theorem rd_law_box {vs H Q E} (T : Txt K w mg A) (h : sp_law_box K vs H Q E) : t_law_box K w A { nx := fun _ H' => Q .non H', rt := Q } (L2.start n_law_box vs) H := by
  obtain ⟨a, ns, rfl, hS, hl, q⟩ := h
  unfold t_law_box
  show tSeq _ _ _ [some (V.ref a), none, none, none] H
  walk_at "go"
  rename_i l0 nl0
  have hc : cutV (ns.map V.int) none (some 63) = ns.map V.int := by
    unfold cutV
    show (List.drop 0 (ns.map V.int)).take (min 63 (ns.map V.int).length - 0) = _
    rw [List.drop_zero, List.take_of_length_le (by rw [List.length_map]; omega)]
  rw [hc]
  refine go_lcM (K := K) (xs := ns.map V.int) (by walk_at "seqL") (fun x => x) (szL (by rw [List.length_map]; omega)) (fun v => rfl) (fun x hx H' R k hr => ?_) (fun cells nc => ?_)
  · obtain ⟨i, _, rfl⟩ := List.mem_map.1 hx
    walk_at "go"
    exact hr
  rw [List.map_id']
  generalize hH1 : upd (upd H l0 (.lst (ns.map V.int))) cells (.lst (ns.map V.int)) = H1
  have k1 : Keep [] H H1 := by subst hH1; walk_at "keep"
  have h1 : H1 cells = some (.lst (ns.map V.int)) := by subst hH1; exact upd_same
  have ncf : H cells = none := (Keep.new (S := []) nl0).free nc (by simp)
  clear hH1
  walk_at "go"
  refine go_lcLF (K := K) (xs := ns.map V.int) (by walk_at "seqL") (fun x => match x with | .int i => .int (i % 2147483629) | y => y) (fun x => match x with | .int i => decide (i < 10 ^ (18 : Int).toNat) | _ => true) (szL (by rw [List.length_map]; omega)) (fun v => rfl) (fun x hx H' R k hr => ?_) (fun x hx _ H' R k hr => ?_) (fun lesser H2 nd k2 h2 => ?_)
  · obtain ⟨i, _, rfl⟩ := List.mem_map.1 hx
    walk_at "go"
    exact hr _ Keep.refl
  · obtain ⟨i, _, rfl⟩ := List.mem_map.1 hx
    walk_at "go"
    exact hr _ Keep.refl
  obtain ⟨ls, el⟩ : ∃ ls : List Int, (((ns.map V.int).filter (fun x => match x with | .int i => decide (i < 10 ^ (18 : Int).toNat) | _ => true)).map (fun x => match x with | .int i => V.int (i % 2147483629) | y => y)) = ls.map V.int ∧ ls.length ≤ 63 := by
    refine ⟨(ns.filter fun i => decide (i < 10 ^ (18 : Int).toNat)).map fun i => i % 2147483629, ?_, ?_⟩
    · rw [List.filter_map, List.map_map, List.map_map]; rfl
    · rw [List.length_map]
      exact Nat.le_trans (List.length_filter_le _ _) hl
  rw [el.1] at h2
  have n2 : H lesser = none := k1.free nd (by simp)
  walk_at "go"
  refine go_lcLF (K := K) (xs := ns.map V.int) (sqL (k2 _ _ h1 (by simp))) (fun x => x) (fun x => match x with | .int i => decide (10 ^ (18 : Int).toNat ≤ i) | _ => true) (szL (by rw [List.length_map]; omega)) (fun v => rfl) (fun x hx H' R k hr => ?_) (fun x hx _ H' R k hr => ?_) (fun great H3 ng k3 h3 => ?_)
  · obtain ⟨i, _, rfl⟩ := List.mem_map.1 hx
    walk_at "go"
    exact hr _ Keep.refl
  · obtain ⟨i, _, rfl⟩ := List.mem_map.1 hx
    walk_at "go"
    exact hr _ Keep.refl
  obtain ⟨gs, eg⟩ : ∃ gs : List Int, (((ns.map V.int).filter (fun x => match x with | .int i => decide (10 ^ (18 : Int).toNat ≤ i) | _ => true)).map fun x => x) = gs.map V.int ∧ gs.length ≤ 63 := by
    refine ⟨ns.filter fun i => decide (10 ^ (18 : Int).toNat ≤ i), ?_, ?_⟩
    · rw [List.map_id', List.filter_map]; rfl
    · exact Nat.le_trans (List.length_filter_le _ _) hl
  rw [eg.1] at h3
  have h1' := k3 _ _ (k2 _ _ h1 (by simp)) (by simp)
  have h2' := k3 _ _ h2 (by simp)
  walk_at "go"
  rename_i s1 ns1 s2 ns2 p np
  have k13 : Keep [] H H3 := (k1.trans k2).trans k3
  have ngf : H great = none := (k1.trans k2).free ng (by simp)
  refine q _ p great s2 (by walk_at "keep") (by walk_at "free") ngf (by walk_at "free") ⟨gs, ((ns.map V.int).length + 17 : Int) :: ls, 7, 0, by walk_at "look", by walk_at "look", ?_, ?_, eg.2, by simp, by simp; exact el.2⟩
  · have : (upd (upd H3 s1 (.lst [.int (((ns.map V.int).length : Int) + 17)])) s2 (.lst ([.int (((ns.map V.int).length : Int) + 17)] ++ ls.map V.int))) s2 = some (.lst (((((ns.map V.int).length : Int) + 17) :: ls).map V.int)) := upd_same
    exact upd_ne' (ne_of_none this np) this
  · intro e
    subst e
    have hh : (upd H3 s1 (.lst [.int (((ns.map V.int).length : Int) + 17)])) great = some (.lst (gs.map V.int)) := by walk_at "look"
    rw [hh] at ns2; cases ns2
theorem Box.keep {H H' : Hp} {S : List Addr} {p g l : Addr} (k : Keep S H H') (n1 : p ∉ S) (n2 : g ∉ S) (n3 : l ∉ S) (b : Box H p g l) : Box H' p g l := by
  obtain ⟨gs, ls, a, b, h1, h2, h3, r⟩ := b
  exact ⟨gs, ls, a, b, k _ _ h1 n1, k _ _ h2 n2, k _ _ h3 n3, r⟩
theorem Box.ne {H : Hp} {p g l : Addr} (b : Box H p g l) : p ≠ g ∧ p ≠ l ∧ g ≠ l := by
  obtain ⟨gs, ls, a, b, h1, h2, h3, n, r⟩ := b
  refine ⟨fun e => ?_, fun e => ?_, n⟩
  · subst e; rw [h1] at h2; injection h2 with h2; injection h2 with h2; cases gs <;> simp at h2
  · subst e; rw [h1] at h3; injection h3 with h3; injection h3 with h3; cases ls <;> simp at h3
theorem rd_law_draw {vs H Q E} (T : Txt K w mg A) (h : sp_law_draw K vs H Q E) : t_law_draw K w A { nx := fun _ H' => Q .non H', rt := Q } (L2.start n_law_draw vs) H := by
  obtain ⟨p, g, l, n, rfl, B, h1, h2, q⟩ := h
  obtain ⟨npg, npl, ngl⟩ := B.ne
  obtain ⟨gs, ls, a, b, hp, hg, hl, _, g1, l1, l2⟩ := B
  unfold t_law_draw
  show tSeq _ _ _ [some (V.ref p), some (V.int n), none, none, none, none] H
  walk_at "go"
  refine ⟨_, Or.inl ⟨_, sqL hg, rfl⟩, ?_⟩
  cases gs with
  | cons c gs =>
    show if true = true then _ else _
    refine go_iteT ?_
    have hg' : H g = some (.lst (.int c :: gs.map V.int)) := hg
    have hn0 : (0 : Int) < n := by omega
    have gl : gs.length ≤ 62 := by simpa using g1
    walk_at "go"
    refine go_ite (fun h3 => ?_) (fun h3 => ?_)
    · walk_at "go"
      exact q _ _ (Int.emod_nonneg _ (by omega)) (Int.emod_lt_of_pos _ hn0) (by walk_at "keep") ⟨c / n :: gs, ls, a, b, by walk_at "look", by walk_at "look", by walk_at "look", ngl, by rw [List.length_cons]; omega, l1, l2⟩
    · walk_at "go"
      exact q _ _ (Int.emod_nonneg _ (by omega)) (Int.emod_lt_of_pos _ hn0) (by walk_at "keep") ⟨gs, ls, a, b, by walk_at "look", by walk_at "look", by walk_at "look", ngl, by omega, l1, l2⟩
  | nil =>
    show if false = true then _ else _
    refine go_iteF ?_
    have hlp : (0 : Int) < ((ls.map V.int).length : Int) := by rw [List.length_map]; omega
    have hn0 : (0 : Int) < n := by omega
    walk_at "go"
    have hlt : ((b + 1) % ((ls.map V.int).length : Int)).toNat < ls.length := by
      have h3 := Int.emod_lt_of_pos (b + 1) hlp
      have h4 := Int.emod_nonneg (b + 1) (by omega : ((ls.map V.int).length : Int) ≠ 0)
      rw [List.length_map] at h3 h4 ⊢
      omega
    refine go_ixL (v := .int ls[((b + 1) % ((ls.map V.int).length : Int)).toNat]) (by walk_at "seqL") (at_of (j := ((b + 1) % ((ls.map V.int).length : Int)).toNat) (by have := Int.emod_nonneg (b + 1) (by omega : ((ls.map V.int).length : Int) ≠ 0); omega) (by rw [List.getElem?_map, List.getElem?_eq_getElem hlt]; rfl)) ?_
    generalize ls[((b + 1) % ((ls.map V.int).length : Int)).toNat] = fresh
    walk_at "go"
    exact q _ _ (Int.emod_nonneg _ (by omega)) (Int.emod_lt_of_pos _ hn0) (by walk_at "keep") ⟨[], ls, _, _, by walk_at "look", by walk_at "look", by walk_at "look", ngl, by simp, l1, l2⟩
theorem rd_law_reserved {vs H Q E} (T : Txt K w mg A) (h : sp_law_reserved K vs H Q E) : t_law_reserved K w A { nx := fun _ H' => Q .non H', rt := Q } (L2.start n_law_reserved vs) H := by
  obtain ⟨u, rfl, q⟩ := h
  unfold t_law_reserved
  show tSeq _ _ _ [none] H
  walk_at "go"
  rename_i s1 ns1 s2 ns2 s3 ns3
  refine q _ s3 ["array", "call", "catch", "def", "div", "drop", "else", "fail", "if", "len", "load", "mod", "new", "nil", "not", "pause", "return", "say", "spawn", "try", "while"] (by walk_at "keep") (by walk_at "free") upd_same rfl ?_
  decide +kernel
theorem rd_law_words {vs H Q E} (T : Txt K w mg A) (h : sp_law_words K vs H Q E) : t_law_words K w A { nx := fun _ H' => Q .non H', rt := Q } (L2.start n_law_words vs) H := by
  obtain ⟨u, rfl, q⟩ := h
  unfold t_law_words
  show tSeq _ _ _ [none] H
  walk_at "go"
  rename_i s1 ns1 s2 ns2 s3 ns3 s4 ns4 s5 ns5
  exact q _ s5 (by walk_at "keep") (by walk_at "free") upd_same
end LW
end
section
namespace LW
open CM
open PySem.PyData (strOk)
variable {K : PySem.W.Frag} {w : World} {mg : Str → Option Value} {A : Adr}
theorem Pot.draw {H H' : Hp} {p g l k : Addr} (P : Pot H p g l k) (kp : Keep [p, g] H H') (b : Box H' p g l) : Pot H' p g l k := by
  obtain ⟨ws, h, r⟩ := P.kn
  exact ⟨b, ⟨ws, kp _ _ h (by simp [P.np, P.ng]), r⟩, P.np, P.ng, P.nl⟩
theorem Pot.keep {H H' : Hp} {p g l k : Addr} (P : Pot H p g l k) (kp : Keep [] H H') : Pot H' p g l k := by
  obtain ⟨ws, h, r⟩ := P.kn
  exact ⟨P.box.keep kp (by simp) (by simp) (by simp), ⟨ws, kp _ _ h (by simp), r⟩, P.np, P.ng, P.nl⟩
theorem keep2 {p g k : Addr} {H H' : Hp} (h : Keep [p, g] H H') : Keep [p, g, k] H H' := h.mono fun x hx => by
  simp only [List.mem_cons, List.not_mem_nil, or_false] at hx ⊢
  rcases hx with h | h
  · exact Or.inl h
  · exact Or.inr (Or.inl h)
theorem keep0 {S : List Addr} {H H' : Hp} (h : Keep [] H H') : Keep S H H' := h.mono fun x hx => by simp at hx
theorem word_at {ws : List Str} (h : ∀ w ∈ ws, WordOk w) {r : Int} (h0 : 0 ≤ r) (h1 : r < ws.length) : ∃ s, atI (ws.map V.str) r = some (.str s) ∧ WordOk s := by
  have hlt : r.toNat < ws.length := by omega
  refine ⟨ws[r.toNat], at_of (j := r.toNat) (by omega) (by rw [List.getElem?_map, List.getElem?_eq_getElem hlt]; rfl), h _ (List.getElem_mem hlt)⟩
theorem at_nat {α : Type} {xs : List α} {r : Int} {c : α} (h0 : 0 ≤ r) (h : xs[r.toNat]? = some c) : atI xs r = some c := by
  obtain ⟨j, rfl⟩ := Int.eq_ofNat_of_zero_le h0
  exact atI_nat (by simpa using h)
theorem first_sign {s : Str} (h : 1 ≤ s.length) (ok : strOk s = true) : ∃ c, atI s.cps.toList 0 = some c ∧ strOk ⟨#[c]⟩ = true := by
  have hlt : 0 < s.cps.toList.length := by rw [Array.length_toList]; exact h
  exact ⟨s.cps.toList[0], atI_nat (j := 0) (List.getElem?_eq_getElem hlt), sign_ok ok (List.getElem_mem hlt)⟩
abbrev abc : Str := "abcdefghijklmnopqrstuvwxyz"
theorem abc_len : abc.cps.toList.length = 26 := by decide +kernel
theorem abc_ok : strOk abc = true := by decide +kernel
theorem abc_at {r : Int} (h0 : 0 ≤ r) (h1 : r < 26) : ∃ c, atI abc.cps.toList r = some c ∧ strOk ⟨#[c]⟩ = true := by
  have hlt : r.toNat < abc.cps.toList.length := by rw [abc_len]; omega
  exact ⟨abc.cps.toList[r.toNat], at_nat h0 (List.getElem?_eq_getElem hlt), sign_ok abc_ok (List.getElem_mem hlt)⟩
theorem Box.there {H : Hp} {p g l : Addr} (b : Box H p g l) : (∃ o, H p = some o) ∧ (∃ o, H g = some o) ∧ ∃ o, H l = some o := by
  obtain ⟨gs, ls, a, b, h1, h2, h3, r⟩ := b
  exact ⟨⟨_, h1⟩, ⟨_, h2⟩, ⟨_, h3⟩⟩
/-- a new address is none of the box's -/
theorem Box.off {H : Hp} {p g l d : Addr} (b : Box H p g l) (h : H d = none) : d ∉ [p, g] := by
  obtain ⟨⟨o1, h1⟩, ⟨o2, h2⟩, _⟩ := b.there
  simp only [List.mem_cons, List.not_mem_nil, or_false, not_or]
  exact ⟨fun e => (by subst e; rw [h1] at h; cases h), fun e => (by subst e; rw [h2] at h; cases h)⟩
theorem Pot.off {H : Hp} {p g l k d : Addr} (P : Pot H p g l k) (h : H d = none) : d ∉ [p, g, k] := by
  have := P.box.off h
  obtain ⟨ws, hk, _⟩ := P.kn
  simp only [List.mem_cons, List.not_mem_nil, or_false, not_or] at this ⊢
  exact ⟨this.1, this.2, fun e => by subst e; rw [hk] at h; cases h⟩
theorem Box.new {H : Hp} {p g l d : Addr} {o : HO} (b : Box H p g l) (h : H d = none) : Box (upd H d o) p g l := b.keep (Keep.new (S := []) h) (by simp) (by simp) (by simp)
theorem rd_law_word {vs H Q E} (T : Txt K w mg A) (h : sp_law_word K vs H Q E) : t_law_word K w A { nx := fun _ H' => Q .non H', rt := Q } (L2.start n_law_word vs) H := by
  obtain ⟨p, g, l, k, rfl, P, q⟩ := h
  unfold t_law_word
  show tSeq _ _ _ [some (V.ref p), some (V.ref k), none, none, none, none, none, none] H
  walk_at "go"
  refine ⟨p, g, l, 8, rfl, P.box, by omega, by omega, fun pick H1 p0 p1 k1 B1 => ?_⟩
  have P1 := P.draw k1 B1
  obtain ⟨ws, hk, hw, hl⟩ := P1.kn
  have kk1 := keep2 (k := k) k1
  -- if known and pick < 2
  dsimp only
  refine seq_rest (fun σ' H' => ∃ a b c d : Option V, σ' = [some (V.ref p), some (V.ref k), some (V.str abc), some (V.int pick), a, b, c, d] ∧ Keep [p, g, k] H H' ∧ Pot H' p g l k) ?_ (fun rest => ?_)
  case refine_2 =>
    refine go_ifS (go_tAnd (go_truth (go_var rfl ⟨_, Or.inl ⟨_, sqL hk, rfl⟩, ?_⟩)))
    cases e0 : ws with
    | nil =>
      show if false = true then _ else _
      refine go_iteF (go_iteF (go_next (rest _ _ ⟨none, none, none, none, rfl, kk1, P1⟩)))
    | cons x xs =>
      rw [← e0]
      have hne : ((ws.map V.str).isEmpty) = false := by rw [e0]; rfl
      rw [hne]
      refine go_iteT ?_
      walk_at "ex"
      refine go_ite (fun h2 => ?_) (fun h2 => ?_)
      · walk_at "go"
        refine ⟨p, g, l, _, rfl, B1, ?_, ?_, fun r H2 r0 r1 k2 B2 => ?_⟩
        · rw [List.length_map, e0, List.length_cons]; omega
        · rw [List.length_map]; omega
        have P2 := P1.draw k2 B2
        have kk2 := kk1.trans (keep2 (k := k) k2)
        have hk2 : H2 k = some (.lst (ws.map V.str)) := k2 _ _ hk (by simp [P.np, P.ng])
        rw [List.length_map] at r1
        obtain ⟨s, es, os⟩ := word_at hw r0 r1
        refine go_ixL (sqL hk2) es ?_
        walk_at "go"
        exact q s H2 os kk2 P2
      · exact go_next (rest _ _ ⟨none, none, none, none, rfl, kk1, P1⟩)
  clear hk hw hl ws P1 B1 kk1 k1
  rintro σ' H1 ⟨a, b, c, d, rfl, kk1, P1⟩
  walk_at "go"
  refine ⟨p, g, l, 12, rfl, P1.box, by omega, by omega, fun size H2 s0 s1 k2 B2 => ?_⟩
  have P2 := P1.draw k2 B2
  have kk2 := kk1.trans (keep2 (k := k) k2)
  walk_at "go"
  refine ⟨_, rfl, by omega, by omega, ?_⟩
  refine go_lcR (fun Dn i H' => ∃ ts : List Str, H' Dn = some (.lst (ts.map V.str)) ∧ ts.length = i ∧ (∀ t ∈ ts, t.length = 1 ∧ strOk t = true) ∧ (∀ x o, H2 x = some o → x ∉ [p, g] → H' x = some o) ∧ Box H' p g l) (fun Dn hD => ?_) (fun Dn i H' hD hi p => ?_) (fun Dn H' hD p => ?_)
  · exact ⟨[], upd_same, rfl, by simp, fun x o e n => Keep.new (S := []) hD x o e (by simp), B2.new hD⟩
  · obtain ⟨ts, h1, h2, h3, h4, h5⟩ := p
    refine ⟨rfl, ?_⟩
    refine go_yes ?_
    rw [if_pos rfl]
    walk_at "go"
    refine ⟨p, g, l, 26, rfl, h5, by omega, by omega, fun r H3 r0 r1 k3 B3 => ?_⟩
    obtain ⟨c, hc, oc⟩ := abc_at r0 r1
    have nd : Dn ∉ [p, g] := B2.off hD
    refine go_ixS (by decide +kernel) hc ⟨_, k3 _ _ h1 nd, ?_, ts ++ [⟨#[c]⟩], ?_, ?_, ?_, ?_, ?_⟩
    · rw [List.length_map, h2]; exact szL (by omega)
    · rw [upd_same, List.map_append]; rfl
    · rw [List.length_append, h2]; rfl
    · intro t ht
      rcases List.mem_append.1 ht with m | m
      · exact h3 t m
      · have := List.mem_singleton.1 m; subst this; exact ⟨rfl, oc⟩
    · intro x o e n
      rw [upd_ne (ne_of_none e hD)]
      exact k3 _ _ (h4 x o e n) n
    · exact B3.keep (S := [Dn]) (Keep.put (by simp)) (by simp; exact fun e => nd (by simp [e])) (by simp; exact fun e => nd (by simp [e])) (by
        simp; intro e
        obtain ⟨_, _, o, ho⟩ := B2.there
        rw [e, hD] at ho; cases ho)
  obtain ⟨ts, h1, h2, h3, h4, h5⟩ := p
  have k3 : Keep [p, g] H2 H' := h4
  have P3 := P2.draw k3 h5
  have kk3 := kk2.trans (keep2 (k := k) k3)
  clear h4 h5
  obtain ⟨jl, jo⟩ := join_signs h3
  have W0 : WordOk (Txt.join "" ts) := ⟨by rw [jl, h2]; omega, by rw [jl, h2]; omega, jo⟩
  have js : ∀ l : List Str, (∀ t ∈ l, t.length = 1 ∧ strOk t = true) → (l.map (·.length)).sum = l.length := by
    intro l hl
    induction l with
    | nil => rfl
    | cons t l ih => rw [List.map_cons, List.sum_cons, ih fun x hx => hl x (by simp [hx]), (hl t (by simp)).1, List.length_cons]; omega
  walk_at "go"
  refine go_join (sqL h1) (by rw [js ts h3]; show ts.length + ts.length * 0 ≤ _; omega) ?_
  generalize Txt.join "" ts = word at W0
  clear h1 h2 h3 jl jo js hD B2 P2 kk2 k2 k3
  dsimp only
  -- if known and pick == 2
  refine seq_rest (fun σ' H' => ∃ (wd : Str) (c : Option V), σ' = [some (V.ref p), some (V.ref k), some (V.str abc), some (V.int pick), some (V.int (1 + size)), some (V.str wd), c, d] ∧ WordOk wd ∧ Keep [p, g, k] H H' ∧ Pot H' p g l k) ?_ (fun rest => ?_)
  case refine_2 =>
    obtain ⟨ws, hk, hw, hl⟩ := P3.kn
    refine go_ifS (go_tAnd (go_truth (go_var rfl ⟨_, Or.inl ⟨_, sqL hk, rfl⟩, ?_⟩)))
    cases e0 : ws with
    | nil =>
      show if false = true then _ else _
      exact go_iteF (go_iteF (go_next (rest _ _ ⟨word, c, rfl, W0, kk3, P3⟩)))
    | cons x xs =>
      rw [← e0]
      have hne : ((ws.map V.str).isEmpty) = false := by rw [e0]; rfl
      rw [hne]
      refine go_iteT ?_
      walk_at "ex"
      refine go_ite (fun h2 => ?_) (fun h2 => ?_)
      · refine go_seq ?_
        refine go_asgN ?_
        walk_at "ex"
        refine ⟨p, g, l, _, rfl, P3.box, ?_, ?_, fun r H2 r0 r1 k2 B2 => ?_⟩
        · rw [List.length_map, e0, List.length_cons]; omega
        · rw [List.length_map]; omega
        have P2 := P3.draw k2 B2
        have kk2 := kk3.trans (keep2 (k := k) k2)
        have hk2 : H2 k = some (.lst (ws.map V.str)) := k2 _ _ hk (by simp [P.np, P.ng])
        rw [List.length_map] at r1
        obtain ⟨s, es, os⟩ := word_at hw r0 r1
        refine go_ixL (sqL hk2) es ?_
        dsimp only
        refine go_ifS ?_
        walk_at "ex"
        refine go_lenS (sz (by have := os.hi; omega)) ?_
        walk_at "ex"
        refine go_ite (fun h3 => ?_) (fun h3 => ?_)
        · obtain ⟨ch, ec, oc⟩ := first_sign W0.lo W0.ok
          refine go_asgN ?_
          walk_at "ex"
          refine go_ixS (sz (by have := W0.hi; omega)) ec ?_
          have l1 : (⟨#[ch]⟩ : Str).length = 1 := rfl
          refine go_addS (sz (by rw [l1]; omega)) ?_
          refine rest _ _ ⟨_, some (.str s), rfl, ⟨by rw [len_append]; omega, by rw [len_append, l1]; omega, strOk_append os.ok oc⟩, kk2, P2⟩
        · exact go_next (rest _ _ ⟨word, some (.str s), rfl, W0, kk2, P2⟩)
      · exact go_next (rest _ _ ⟨word, c, rfl, W0, kk3, P3⟩)
  clear W0 kk3 P3
  rintro σ' H' ⟨word, c, rfl, W0, kk3, P3⟩
  -- if pick == 3
  refine seq_rest (fun σ' H' => ∃ (wd : Str), σ' = [some (V.ref p), some (V.ref k), some (V.str abc), some (V.int pick), some (V.int (1 + size)), some (V.str wd), c, d] ∧ WordOk wd ∧ Keep [p, g, k] H H' ∧ Pot H' p g l k) ?_ (fun rest => ?_)
  case refine_2 =>
    refine go_ifS ?_
    walk_at "ex"
    refine go_ite (fun h2 => ?_) (fun h2 => ?_)
    · refine go_asgN ?_
      walk_at "ex"
      refine ⟨(), rfl, fun H2 lw ws k2 n2 h2 hl hw => ?_⟩
      have P2 := P3.keep k2
      walk_at "ex"
      refine ⟨p, g, l, 21, rfl, P2.box, by omega, by omega, fun r H3 r0 r1 k3 B3 => ?_⟩
      have h3 : H3 lw = some (.lst (ws.map V.str)) := k3 _ _ h2 (P3.box.off n2)
      have hlt : r.toNat < ws.length := by omega
      refine go_ixL (sqL h3) (v := .str ws[r.toNat]) (at_nat r0 (by rw [List.getElem?_map, List.getElem?_eq_getElem hlt]; rfl)) ?_
      have hw' := hw _ (List.getElem_mem hlt)
      generalize ws[r.toNat] = s at hw'
      obtain ⟨ch, ec, oc⟩ := first_sign W0.lo W0.ok
      walk_at "ex"
      refine go_ixS (sz (by have := W0.hi; omega)) ec ?_
      have l1 : (⟨#[ch]⟩ : Str).length = 1 := rfl
      refine go_addS (sz (by rw [l1]; omega)) ?_
      refine rest _ _ ⟨_, rfl, ⟨by rw [len_append]; omega, by rw [len_append, l1]; omega, strOk_append hw'.1 oc⟩, (kk3.trans (keep0 k2)).trans (keep2 (k := k) k3), P2.draw k3 B3⟩
    · exact go_next (rest _ _ ⟨word, rfl, W0, kk3, P3⟩)
  clear W0 kk3 P3
  rintro σ' H' ⟨word, rfl, W0, kk3, P3⟩
  -- if word in reserved
  refine seq_rest (fun σ' H' => ∃ (wd : Str), σ' = [some (V.ref p), some (V.ref k), some (V.str abc), some (V.int pick), some (V.int (1 + size)), some (V.str wd), c, d] ∧ WordOk wd ∧ Keep [p, g, k] H H' ∧ Pot H' p g l k) ?_ (fun rest => ?_)
  case refine_2 =>
    refine go_ifS ?_
    walk_at "ex"
    refine ⟨(), rfl, fun H2 lw ws k2 n2 h2 hl hw => ?_⟩
    have P2 := P3.keep k2
    walk_at "ex"
    refine go_ite (fun h3 => ?_) (fun h3 => ?_)
    · refine go_asgN ?_
      walk_at "ex"
      have hw' := hw _ h3
      have l1 : ("q" : Str).length = 1 := by decide +kernel
      have oq : strOk "q" = true := by decide +kernel
      refine go_addS (sz (by rw [l1]; omega)) ?_
      refine rest _ _ ⟨_, rfl, ⟨by rw [len_append]; omega, by rw [len_append, l1]; omega, strOk_append hw'.1 oq⟩, kk3.trans (keep0 k2), P2⟩
    · exact go_next (rest _ _ ⟨word, rfl, W0, kk3.trans (keep0 k2), P2⟩)
  clear W0 kk3 P3
  rintro σ' H' ⟨word, rfl, W0, kk3, P3⟩
  obtain ⟨ws, hk, hw, hl⟩ := P3.kn
  walk_at "go"
  refine go_ite (fun h3 => ?_) (fun h3 => ?_)
  · rw [List.length_map] at h3
    walk_at "go"
    refine go_iteN (fun h4 => ?_) (fun h4 => ?_)
    · walk_at "go"
      refine q word _ W0 (kk3.trans (Keep.put (by simp))) ⟨P3.box.keep (S := [k]) (Keep.put (by simp)) (by simp; exact fun e => P3.np e.symm) (by simp; exact fun e => P3.ng e.symm) (by simp; exact fun e => P3.nl e.symm), ⟨ws ++ [word], by rw [upd_same, List.map_append]; rfl, ?_, by rw [List.length_append, List.length_singleton]; omega⟩, P3.np, P3.ng, P3.nl⟩
      intro x hx
      rcases List.mem_append.1 hx with m | m
      · exact hw x m
      · have := List.mem_singleton.1 m; subst this; exact W0
    · walk_at "go"
      exact q word _ W0 kk3 P3
  · walk_at "go"
    exact q word _ W0 kk3 P3
theorem rd_law_value {vs H Q E} (T : Txt K w mg A) (h : sp_law_value K vs H Q E) : t_law_value K w A { nx := fun _ H' => Q .non H', rt := Q } (L2.start n_law_value vs) H := by
  obtain ⟨p, g, l, k, rfl, P, q⟩ := h
  unfold t_law_value
  show tSeq _ _ _ [some (V.ref p), some (V.ref k), none] H
  walk_at "go"
  refine ⟨p, g, l, 5, rfl, P.box, by omega, by omega, fun pick H1 p0 p1 k1 B1 => ?_⟩
  have P1 := P.draw k1 B1
  have kk1 := keep2 (k := k) k1
  walk_at "go"
  refine go_ite (fun h1 => ?_) (fun h1 => ?_)
  · walk_at "go"
    exact q _ .none H1 .non rfl rfl (by simp [PyData.depth]) kk1 P1
  walk_at "go"
  refine go_ite (fun h2 => ?_) (fun h2 => ?_)
  · walk_at "go"
    refine ⟨p, g, l, k, rfl, P1, fun wd H2 W k2 P2 => ?_⟩
    walk_at "go"
    rename_i t nt
    refine q _ (.tuple [.str "fn", .str wd]) _ (.tup (sqT upd_same) (.cons (.str _) (.cons (.str _) .nil))) rfl ?_ (by simp [PyData.depth, PyData.depthAll]) ((kk1.trans k2).trans (Keep.new nt)) (P2.keep (Keep.new nt))
    have o1 : strOk "fn" = true := by decide +kernel
    simp [gd, gdA, o1, W.ok]
  walk_at "go"
  refine go_ite (fun h3 => ?_) (fun h3 => ?_)
  · walk_at "go"
    refine ⟨"abc", 20, rfl, rfl, by decide, by decide, by decide +kernel, by decide +kernel, ?_⟩
    have ok4 : ∀ t ∈ (["", "nil", "x = 1;", repS "abc" (20 : Int).toNat] : List Str), strOk t = true := by decide +kernel
    generalize repS "abc" (20 : Int).toNat = long at ok4
    walk_at "go"
    rename_i lw nlw
    have P1' := P1.keep (Keep.new (o := .lst ((["", "nil", "x = 1;", long] : List Str).map V.str)) nlw)
    refine ⟨p, g, l, 4, rfl, P1'.box, by omega, by omega, fun r H2 r0 r1 k2 B2 => ?_⟩
    have h4 : H2 lw = some (.lst ((["", "nil", "x = 1;", long] : List Str).map V.str)) := k2 _ _ upd_same (P1.box.off nlw)
    have hlt : r.toNat < (["", "nil", "x = 1;", long] : List Str).length := by simp; omega
    refine go_ixL (sqL h4) (v := .str (["", "nil", "x = 1;", long] : List Str)[r.toNat]) (at_nat r0 (by rw [List.getElem?_map, List.getElem?_eq_getElem hlt]; rfl)) ?_
    have o4 := ok4 _ (List.getElem_mem hlt)
    walk_at "go"
    exact q _ (.str _) H2 (.str _) rfl o4 (by simp [PyData.depth]) ((kk1.trans (Keep.new nlw)).trans (keep2 k2)) (P1'.draw k2 B2)
  · walk_at "go"
    refine ⟨p, g, l, _, rfl, P1.box, by decide, by decide, fun r H2 r0 r1 k2 B2 => ?_⟩
    walk_at "go"
    exact q _ (.int r) H2 (.int r) rfl rfl (by simp [PyData.depth]) (kk1.trans (keep2 k2)) (P1.draw k2 B2)
end LW
end
section
namespace LW
open CM
open PySem.PyData (strOk)
variable {K : PySem.W.Frag} {w : World} {mg : Str → Option Value} {A : Adr}
theorem noL_ints : ∀ g : List Int, noL.noLA (intsD g) = true
  | [] => rfl
  | x :: g => by
    show (noL (.int x) && noL.noLA (intsD g)) = true
    rw [noL_ints g]; rfl
theorem dp_given {H : Hp} {t : Addr} {g : List Int} (h : H t = some (.tup (g.map V.int))) : Dp K H (.ref t) (.tuple (intsD g)) := .tup (sqT h) (dpAll_ints g)
/-- where the drawn parts of a row stand -/
structure Rst (H H' : Hp) (p g l k t : Addr) (gv : List Int) : Prop where
  kk : Keep [p, g, k] H H'
  P : Pot H' p g l k
  t_ : H' t = some (.tup (gv.map V.int))
theorem Rst.new {H H' : Hp} {p g l k t d : Addr} {gv : List Int} {o : HO} (S : Rst H H' p g l k t gv) (n : H' d = none) : Rst H (upd H' d o) p g l k t gv :=
  ⟨S.kk.trans (Keep.new n), S.P.keep (Keep.new n), Keep.new (S := []) n _ _ S.t_ (by simp)⟩
theorem Rst.draw {H H' H2 : Hp} {p g l k t : Addr} {gv : List Int} (S : Rst H H' p g l k t gv) (k2 : Keep [p, g] H' H2) (B : Box H2 p g l) : Rst H H2 p g l k t gv := by
  refine ⟨S.kk.trans (keep2 k2), S.P.draw k2 B, k2 _ _ S.t_ fun m => ?_⟩
  obtain ⟨gs, ls, a, b, h1, h2, h3, _⟩ := S.P.box
  simp only [List.mem_cons, List.not_mem_nil, or_false] at m
  rcases m with e | e
  · have := S.t_; rw [e, h1] at this; cases this
  · have := S.t_; rw [e, h2] at this; cases this
theorem Rst.pot {H H' H2 : Hp} {p g l k t : Addr} {gv : List Int} (S : Rst H H' p g l k t gv) (k2 : Keep [p, g, k] H' H2) (P : Pot H2 p g l k) : Rst H H2 p g l k t gv := by
  refine ⟨S.kk.trans k2, P, k2 _ _ S.t_ fun m => ?_⟩
  obtain ⟨gs, ls, a, b, h1, h2, h3, _⟩ := S.P.box
  obtain ⟨ws, hk, _⟩ := S.P.kn
  simp only [List.mem_cons, List.not_mem_nil, or_false] at m
  rcases m with e | e | e
  · have := S.t_; rw [e, h1] at this; cases this
  · have := S.t_; rw [e, h2] at this; cases this
  · have := S.t_; rw [e, hk] at this; cases this
theorem rd_law_row {vs H Q E} (T : Txt K w mg A) (h : sp_law_row K vs H Q E) : t_law_row K w A { nx := fun _ H' => Q .non H', rt := Q } (L2.start n_law_row vs) H := by
  obtain ⟨p, g, l, k, word, many, size, rfl, P, hword, s1, s2, m1, m2, q⟩ := h
  unfold t_law_row
  show tSeq _ _ _ [some (V.ref p), some (V.str word), some (V.int many), some (V.int size), some (V.ref k), none, none, none, none, none, none, none] H
  walk_at "go"
  refine ⟨p, g, l, size, rfl, P.box, s1, by omega, fun a H1 a0 a1 k1 B1 => ?_⟩
  have P1 := P.draw k1 B1
  have kk1 := keep2 (k := k) k1
  clear k1 B1
  walk_at "go"
  refine ⟨p, g, l, size, rfl, P1.box, s1, by omega, fun b H2 b0 b1 k2 B2 => ?_⟩
  have P2 := P1.draw k2 B2
  have kk2 := kk1.trans (keep2 (k := k) k2)
  clear k2 B2 kk1 P1
  walk_at "go"
  refine ⟨p, g, l, size, rfl, P2.box, s1, by omega, fun c H3 c0 c1 k3 B3 => ?_⟩
  have P3 := P2.draw k3 B3
  have kk3 := kk2.trans (keep2 (k := k) k3)
  clear k3 B3 kk2 P2
  walk_at "go"
  refine ⟨p, g, l, k, rfl, P3, fun name H4 W k4 P4 => ?_⟩
  have kk4 := kk3.trans k4
  clear k4 kk3 P3
  walk_at "go"
  rename_i ln nln
  have kk5 : Keep [p, g, k] H (upd H4 ln (.lst ([0, 1, 2, 3, 5].map V.int))) := kk4.trans (Keep.new nln)
  have P5 : Pot (upd H4 ln (.lst ([0, 1, 2, 3, 5].map V.int))) p g l k := P4.keep (Keep.new nln)
  refine ⟨p, g, l, 5, rfl, P5.box, by omega, by omega, fun r H6 r0 r1 k6 B6 => ?_⟩
  have h6 : H6 ln = some (.lst (([0, 1, 2, 3, 5] : List Int).map V.int)) := k6 _ _ upd_same (P4.box.off nln)
  have P6 := P5.draw k6 B6
  have kk6 := kk5.trans (keep2 (k := k) k6)
  clear k6 B6 kk5 P5 kk4 P4
  have hlt : r.toNat < ([0, 1, 2, 3, 5] : List Int).length := by simp; omega
  refine go_ixL (sqL h6) (v := .int ([0, 1, 2, 3, 5] : List Int)[r.toNat]) (at_nat r0 (by rw [List.getElem?_map, List.getElem?_eq_getElem hlt]; rfl)) ?_
  obtain ⟨n, en, n0, n5⟩ : ∃ n : Int, ([0, 1, 2, 3, 5] : List Int)[r.toNat] = n ∧ 0 ≤ n ∧ n ≤ 5 := by
    refine ⟨_, rfl, ?_⟩
    have : ∀ x ∈ ([0, 1, 2, 3, 5] : List Int), 0 ≤ x ∧ x ≤ 5 := by decide
    exact this _ (List.getElem_mem hlt)
  rw [en]
  clear h6 nln en hlt
  walk_at "go"
  refine ⟨_, rfl, by omega, by omega, ?_⟩
  refine go_lcR (fun Dn i H' => ∃ gv : List Int, H' Dn = some (.lst (gv.map V.int)) ∧ gv.length = i ∧ (∀ x ∈ gv, Sl size x) ∧ (∀ x o, H6 x = some o → x ∉ [p, g] → H' x = some o) ∧ Box H' p g l) (fun Dn hD => ?_) (fun Dn i H' hD hi pv => ?_) (fun Dn H' hD pv => ?_)
  · exact ⟨[], upd_same, rfl, by simp, fun x o e n => Keep.new (S := []) hD x o e (by simp), P6.box.new hD⟩
  · obtain ⟨gv, h1, h2, h3, h4, h5⟩ := pv
    refine ⟨rfl, go_yes ?_⟩
    rw [if_pos rfl]
    walk_at "go"
    refine ⟨p, g, l, size, rfl, h5, s1, by omega, fun r H3 r0 r1 k3 B3 => ?_⟩
    have nd : Dn ∉ [p, g] := P6.box.off hD
    have nl : l ∉ [Dn] := by
      simp; intro e
      obtain ⟨_, _, o, ho⟩ := P6.box.there
      rw [e, hD] at ho; cases ho
    refine ⟨_, k3 _ _ h1 nd, ?_, gv ++ [r], ?_, ?_, ?_, ?_, ?_⟩
    · rw [List.length_map, h2]; exact szL (by omega)
    · rw [upd_same, List.map_append]; rfl
    · rw [List.length_append, h2]; rfl
    · intro t ht
      rcases List.mem_append.1 ht with m | m
      · exact h3 t m
      · have := List.mem_singleton.1 m; subst this; exact ⟨r0, r1⟩
    · intro x o e n
      rw [upd_ne (ne_of_none e hD)]
      exact k3 _ _ (h4 x o e n) n
    · exact B3.keep (S := [Dn]) (Keep.put (by simp)) (by simp; exact fun e => nd (by simp [e])) (by simp; exact fun e => nd (by simp [e])) nl
  obtain ⟨gv, h1, h2, h3, h4, h5⟩ := pv
  have k7 : Keep [p, g] H6 H' := h4
  have P7 := P6.draw k7 h5
  have kk7 := kk6.trans (keep2 (k := k) k7)
  have g5 : gv.length ≤ 5 := by rw [h2]; omega
  clear h4 h5 k7 P6 kk6 hD
  walk_at "ex"
  refine go_tupL (sqL h1) (fun t nt => ?_)
  have S : Rst H (upd H' t (.tup (gv.map V.int))) p g l k t gv := ⟨kk7.trans (Keep.new nt), P7.keep (Keep.new nt), upd_same⟩
  generalize upd H' t (.tup (gv.map V.int)) = H8 at S
  clear nt h1 h2 P7 kk7
  have sa : Sl size a := ⟨a0, a1⟩
  have sb : Sl size b := ⟨b0, b1⟩
  have sc : Sl size c := ⟨c0, c1⟩
  have wk := W.ok
  walk_at "go"
  refine go_ite (fun e => ?_) (fun e => ?_)
  · subst e
    walk_at "go"
    refine ⟨p, g, l, k, rfl, S.P, fun v d H2 hv hn hg hd k2 P2 => ?_⟩
    have S2 := S.pot k2 P2
    walk_at "go"
    rename_i rt nrt
    exact q rt (.const a d) _ (S2.new nrt).kk (S2.new nrt).P ⟨.tup (sqT upd_same) (.cons (.str _) (.cons (.int _) (.cons (dp_keep (Keep.new nrt) _ _ hv) .nil))), by simp [Ins.data, noL, noL.noLA, hn]⟩ ⟨sa, hg, hd⟩ rfl
  walk_at "go"
  rename_i li nli
  have S1 := S.new (o := .lst [.str "move", .str "not", .str "array", .str "len"]) nli
  refine go_inS (ws := ["move", "not", "array", "len"]) (sqL upd_same) ?_
  clear S nli
  generalize upd _ li (.lst _) = Hn at S1
  have S := S1
  clear S1
  walk_at "ex"
  refine go_ite (fun e => ?_) (fun e => ?_)
  · simp only [List.mem_cons, List.not_mem_nil, or_false] at e
    walk_at "go"
    rename_i rt nrt
    exact q rt (.two word a b) _ (S.new nrt).kk (S.new nrt).P ⟨.tup (sqT upd_same) (.cons (.str _) (.cons (.int _) (.cons (.int _) .nil))), by simp [Ins.data, noL, noL.noLA]⟩ ⟨e, sa, sb⟩ rfl
  walk_at "go"
  refine go_ite (fun e => ?_) (fun e => ?_)
  · subst e
    walk_at "go"
    rename_i lo nlo
    have S1 := S.new (o := .lst ((["add", "div", "eq", "le", "lt", "mod", "mul", "sub"] : List Str).map V.str)) nlo
    refine ⟨p, g, l, 8, rfl, S1.P.box, by omega, by omega, fun r2 H2 x0 x1 k2 B2 => ?_⟩
    have h8 : H2 lo = some (.lst ((["add", "div", "eq", "le", "lt", "mod", "mul", "sub"] : List Str).map V.str)) := k2 _ _ upd_same (S.P.box.off nlo)
    have S2 := S1.draw k2 B2
    have hlt : r2.toNat < (["add", "div", "eq", "le", "lt", "mod", "mul", "sub"] : List Str).length := by simp; omega
    refine go_ixL (sqL h8) (v := .str (["add", "div", "eq", "le", "lt", "mod", "mul", "sub"] : List Str)[r2.toNat]) (at_nat x0 (by rw [List.getElem?_map, List.getElem?_eq_getElem hlt]; rfl)) ?_
    obtain ⟨opn, eo, oo⟩ : ∃ s : Str, (["add", "div", "eq", "le", "lt", "mod", "mul", "sub"] : List Str)[r2.toNat] = s ∧ strOk s = true := by
      refine ⟨_, rfl, ?_⟩
      have : ∀ x ∈ (["add", "div", "eq", "le", "lt", "mod", "mul", "sub"] : List Str), strOk x = true := by decide +kernel
      exact this _ (List.getElem_mem hlt)
    rw [eo]
    walk_at "go"
    rename_i rt nrt
    exact q rt (.op opn a b c) _ (S2.new nrt).kk (S2.new nrt).P ⟨.tup (sqT upd_same) (.cons (.str _) (.cons (.str _) (.cons (.int _) (.cons (.int _) (.cons (.int _) .nil))))), by simp [Ins.data, noL, noL.noLA]⟩ ⟨oo, sa, sb, sc⟩ rfl
  walk_at "go"
  refine go_ite (fun e => ?_) (fun e => ?_)
  · subst e
    walk_at "go"
    refine ⟨p, g, l, many, rfl, S.P.box, m1, by omega, fun r2 H2 x0 x1 k2 B2 => ?_⟩
    have S2 := S.draw k2 B2
    walk_at "go"
    rename_i rt nrt
    exact q rt (.jump r2) _ (S2.new nrt).kk (S2.new nrt).P ⟨.tup (sqT upd_same) (.cons (.str _) (.cons (.int _) .nil)), by simp [Ins.data, noL, noL.noLA]⟩ ⟨x0, x1⟩ rfl
  walk_at "go"
  refine go_ite (fun e => ?_) (fun e => ?_)
  · subst e
    walk_at "go"
    refine ⟨p, g, l, many, rfl, S.P.box, m1, by omega, fun r2 H2 x0 x1 k2 B2 => ?_⟩
    have S2 := S.draw k2 B2
    walk_at "go"
    rename_i rt nrt
    exact q rt (.branch a r2) _ (S2.new nrt).kk (S2.new nrt).P ⟨.tup (sqT upd_same) (.cons (.str _) (.cons (.int _) (.cons (.int _) .nil))), by simp [Ins.data, noL, noL.noLA]⟩ ⟨sa, x0, x1⟩ rfl
  walk_at "go"
  rename_i li nli
  have S1 := S.new (o := .lst [.str "getg", .str "new", .str "drop"]) nli
  refine go_inS (ws := ["getg", "new", "drop"]) (sqL upd_same) ?_
  clear S nli
  generalize upd _ li (.lst _) = Hn at S1
  have S := S1
  clear S1
  walk_at "ex"
  refine go_ite (fun e => ?_) (fun e => ?_)
  · simp only [List.mem_cons, List.not_mem_nil, or_false] at e
    walk_at "go"
    rename_i rt nrt
    exact q rt (.nam word a name) _ (S.new nrt).kk (S.new nrt).P ⟨.tup (sqT upd_same) (.cons (.str _) (.cons (.int _) (.cons (.str _) .nil))), by simp [Ins.data, noL, noL.noLA]⟩ ⟨e, sa, wk⟩ rfl
  walk_at "go"
  refine go_ite (fun e => ?_) (fun e => ?_)
  · subst e
    walk_at "go"
    rename_i rt nrt
    exact q rt (.setg name a) _ (S.new nrt).kk (S.new nrt).P ⟨.tup (sqT upd_same) (.cons (.str _) (.cons (.str _) (.cons (.int _) .nil))), by simp [Ins.data, noL, noL.noLA]⟩ ⟨wk, sa⟩ rfl
  walk_at "go"
  refine go_ite (fun e => ?_) (fun e => ?_)
  · subst e
    walk_at "go"
    rename_i rt nrt
    exact q rt (.get a b name) _ (S.new nrt).kk (S.new nrt).P ⟨.tup (sqT upd_same) (.cons (.str _) (.cons (.int _) (.cons (.int _) (.cons (.str _) .nil)))), by simp [Ins.data, noL, noL.noLA]⟩ ⟨sa, sb, wk⟩ rfl
  walk_at "go"
  refine go_ite (fun e => ?_) (fun e => ?_)
  · subst e
    walk_at "go"
    rename_i rt nrt
    exact q rt (.put a name b) _ (S.new nrt).kk (S.new nrt).P ⟨.tup (sqT upd_same) (.cons (.str _) (.cons (.int _) (.cons (.str _) (.cons (.int _) .nil)))), by simp [Ins.data, noL, noL.noLA]⟩ ⟨sa, wk, sb⟩ rfl
  walk_at "go"
  rename_i li nli
  have S1 := S.new (o := .lst [.str "at", .str "setat"]) nli
  refine go_inS (ws := ["at", "setat"]) (sqL upd_same) ?_
  clear S nli
  generalize upd _ li (.lst _) = Hn at S1
  have S := S1
  clear S1
  walk_at "ex"
  refine go_ite (fun e => ?_) (fun e => ?_)
  · simp only [List.mem_cons, List.not_mem_nil, or_false] at e
    walk_at "go"
    rename_i rt nrt
    exact q rt (.three word a b c) _ (S.new nrt).kk (S.new nrt).P ⟨.tup (sqT upd_same) (.cons (.str _) (.cons (.int _) (.cons (.int _) (.cons (.int _) .nil)))), by simp [Ins.data, noL, noL.noLA]⟩ ⟨e, sa, sb, sc⟩ rfl
  walk_at "go"
  refine go_ite (fun e => ?_) (fun e => ?_)
  · subst e
    walk_at "go"
    rename_i rt nrt
    exact q rt (.call a name gv) _ (S.new nrt).kk (S.new nrt).P ⟨.tup (sqT upd_same) (.cons (.str _) (.cons (.int _) (.cons (.str _) (.cons (dpT_keep (Keep.new nrt) noT_nil _ _ (noL_ints gv) (dp_given S.t_)) .nil)))), by simp [Ins.data, noL, noL.noLA, noL_ints]⟩ ⟨sa, wk, h3, g5⟩ rfl
  walk_at "go"
  refine go_ite (fun e => ?_) (fun e => ?_)
  · subst e
    walk_at "go"
    rename_i rt nrt
    exact q rt (.callv a b gv) _ (S.new nrt).kk (S.new nrt).P ⟨.tup (sqT upd_same) (.cons (.str _) (.cons (.int _) (.cons (.int _) (.cons (dpT_keep (Keep.new nrt) noT_nil _ _ (noL_ints gv) (dp_given S.t_)) .nil)))), by simp [Ins.data, noL, noL.noLA, noL_ints]⟩ ⟨sa, sb, h3, g5⟩ rfl
  walk_at "go"
  refine go_ite (fun e => ?_) (fun e => ?_)
  · subst e
    walk_at "go"
    rename_i rt nrt
    exact q rt (.meth a b name gv) _ (S.new nrt).kk (S.new nrt).P ⟨.tup (sqT upd_same) (.cons (.str _) (.cons (.int _) (.cons (.int _) (.cons (.str _) (.cons (dpT_keep (Keep.new nrt) noT_nil _ _ (noL_ints gv) (dp_given S.t_)) .nil))))), by simp [Ins.data, noL, noL.noLA, noL_ints]⟩ ⟨sa, sb, wk, h3, g5⟩ rfl
  walk_at "go"
  refine go_ite (fun e => ?_) (fun e => ?_)
  · subst e
    walk_at "go"
    rename_i rt nrt
    exact q rt (.spawn name gv) _ (S.new nrt).kk (S.new nrt).P ⟨.tup (sqT upd_same) (.cons (.str _) (.cons (.str _) (.cons (dpT_keep (Keep.new nrt) noT_nil _ _ (noL_ints gv) (dp_given S.t_)) .nil))), by simp [Ins.data, noL, noL.noLA, noL_ints]⟩ ⟨wk, h3, g5⟩ rfl
  walk_at "go"
  refine go_ite (fun e => ?_) (fun e => ?_)
  · subst e
    walk_at "go"
    rename_i rt nrt
    exact q rt (.pause) _ (S.new nrt).kk (S.new nrt).P ⟨.tup (sqT upd_same) (.cons (.str _) .nil), by simp [Ins.data, noL, noL.noLA]⟩ trivial rfl
  walk_at "go"
  rename_i rt nrt
  refine q rt (.one word a) _ (S.new nrt).kk (S.new nrt).P ⟨.tup (sqT upd_same) (.cons (.str _) (.cons (.int _) .nil)), by simp [Ins.data, noL, noL.noLA]⟩ ⟨?_, sa⟩ rfl
  have key : ∀ x ∈ W25, ¬ x = "const" → ¬ x ∈ (["move", "not", "array", "len"] : List Str) → ¬ x = "op" → ¬ x = "jump" → ¬ x = "branch" → ¬ x ∈ (["getg", "new", "drop"] : List Str) → ¬ x = "setg" → ¬ x = "get" → ¬ x = "put" →
    ¬ x ∈ (["at", "setat"] : List Str) → ¬ x = "call" → ¬ x = "callv" → ¬ x = "method" → ¬ x = "spawn" → ¬ x = "pause" → x = "return" ∨ x = "say" ∨ x = "fail" ∨ x = "load" := by decide +kernel
  exact key word hword (by assumption) (by assumption) (by assumption) (by assumption) (by assumption) (by assumption) (by assumption) (by assumption) (by assumption) (by assumption) (by assumption) (by assumption) (by assumption) (by assumption) (by assumption)
end LW
end
section
namespace LW
open CM
open PySem.PyData (strOk)
variable {K : PySem.W.Frag} {w : World} {mg : Str → Option Value} {A : Adr}
theorem Box.noT {H : Hp} {p g l : Addr} (b : Box H p g l) : NoT H [p, g] := by
  obtain ⟨gs, ls, a, b, h1, h2, h3, _⟩ := b
  exact noT_lst h1 (noT_lst h2 noT_nil)
theorem Pot.noT {H : Hp} {p g l k : Addr} (P : Pot H p g l k) : NoT H [p, g, k] := by
  obtain ⟨gs, ls, a, b, h1, h2, h3, _⟩ := P.box
  obtain ⟨ws, hk, _⟩ := P.kn
  exact noT_lst h1 (noT_lst h2 (noT_lst hk noT_nil))
theorem RowAt.keep {H H' : Hp} {S : List Addr} {a : Addr} {i : Ins} (k : Keep S H H') (n : NoT H S) (h : RowAt K H a i) : RowAt K H' a i := ⟨dpT_keep k n _ _ h.2 h.1, h.2⟩
theorem RowsAt.keep {H H' : Hp} {S : List Addr} {l : Addr} {rows : List Ins} (k : Keep S H H') (n : NoT H S) (m : l ∉ S) (h : RowsAt K H l rows) : RowsAt K H' l rows := by
  obtain ⟨as, h1, h2⟩ := h
  exact ⟨as, k _ _ h1 m, Paired.mapP h2 fun a i e => RowAt.keep k n e⟩
theorem HandsAt.keep {H H' : Hp} {S : List Addr} {l : Addr} {hs : List Hd} (k : Keep S H H') (n : NoT H S) (m : l ∉ S) (h : HandsAt K H l hs) : HandsAt K H' l hs := by
  obtain ⟨as, h1, h2⟩ := h
  exact ⟨as, k _ _ h1 m, Paired.mapP h2 fun a i e => sqT_keep k n e⟩
/-- a code half made -/
structure Dst (K : PySem.W.Frag) (H0 H : Hp) (p g l k lr lh : Addr) (rows : List Ins) (hs : List Hd) : Prop where
  kk : Keep [p, g, k] H0 H
  P : Pot H p g l k
  rows : RowsAt K H lr rows
  hs : HandsAt K H lh hs
  n1 : H0 lr = none
  n2 : H0 lh = none
  o1 : lr ∉ [p, g, l, k]
  o2 : lh ∉ [p, g, l, k]
  ne : lr ≠ lh
theorem off3 {x p g l k : Addr} (h : x ∉ [p, g, l, k]) : x ∉ [p, g, k] := by
  simp only [List.mem_cons, List.not_mem_nil, or_false, not_or] at h ⊢
  exact ⟨h.1, h.2.1, h.2.2.2⟩
theorem off2 {x p g l k : Addr} (h : x ∉ [p, g, l, k]) : x ∉ [p, g] := by
  simp only [List.mem_cons, List.not_mem_nil, or_false, not_or] at h ⊢
  exact ⟨h.1, h.2.1⟩
theorem Pot.off4 {H : Hp} {p g l k d : Addr} (P : Pot H p g l k) (h : H d = none) : d ∉ [p, g, l, k] := by
  have := P.off h
  obtain ⟨_, _, o, ho⟩ := P.box.there
  simp only [List.mem_cons, List.not_mem_nil, or_false, not_or] at this ⊢
  exact ⟨this.1, this.2.1, fun e => (by subst e; rw [ho] at h; cases h), this.2.2⟩
theorem Dst.draw {H0 H H2 : Hp} {p g l k lr lh : Addr} {rows : List Ins} {hs : List Hd} (S : Dst K H0 H p g l k lr lh rows hs) (k2 : Keep [p, g] H H2) (B : Box H2 p g l) : Dst K H0 H2 p g l k lr lh rows hs :=
  ⟨S.kk.trans (keep2 k2), S.P.draw k2 B, S.rows.keep k2 S.P.box.noT (off2 S.o1), S.hs.keep k2 S.P.box.noT (off2 S.o2), S.n1, S.n2, S.o1, S.o2, S.ne⟩
theorem Dst.pot {H0 H H2 : Hp} {p g l k lr lh : Addr} {rows : List Ins} {hs : List Hd} (S : Dst K H0 H p g l k lr lh rows hs) (k2 : Keep [p, g, k] H H2) (P : Pot H2 p g l k) : Dst K H0 H2 p g l k lr lh rows hs :=
  ⟨S.kk.trans k2, P, S.rows.keep k2 S.P.noT (off3 S.o1), S.hs.keep k2 S.P.noT (off3 S.o2), S.n1, S.n2, S.o1, S.o2, S.ne⟩
theorem Dst.new {H0 H : Hp} {p g l k lr lh d : Addr} {rows : List Ins} {hs : List Hd} {o : HO} (S : Dst K H0 H p g l k lr lh rows hs) (n : H d = none) : Dst K H0 (upd H d o) p g l k lr lh rows hs :=
  ⟨S.kk.trans (Keep.new n), S.P.keep (Keep.new n), S.rows.keep (Keep.new n) noT_nil (by simp), S.hs.keep (Keep.new n) noT_nil (by simp), S.n1, S.n2, S.o1, S.o2, S.ne⟩
theorem Pot.put {H : Hp} {p g l k d : Addr} {o : HO} (P : Pot H p g l k) (n : d ∉ [p, g, l, k]) : Pot (upd H d o) p g l k := by
  simp only [List.mem_cons, List.not_mem_nil, or_false, not_or] at n
  obtain ⟨n1, n2, n3, n4⟩ := n
  obtain ⟨ws, hk, r⟩ := P.kn
  have kp : Keep [d] H (upd H d o) := Keep.put (by simp)
  exact ⟨P.box.keep kp (by simp; exact fun e => n1 e.symm) (by simp; exact fun e => n2 e.symm) (by simp; exact fun e => n3 e.symm), ⟨ws, kp _ _ hk (by simp; exact fun e => n4 e.symm), r⟩, P.np, P.ng, P.nl⟩
theorem Paired.snoc {α β : Type} {F : α → β → Prop} {as : List α} {bs : List β} {a : α} {b : β} (h : Paired F as bs) (e : F a b) : Paired F (as ++ [a]) (bs ++ [b]) := Paired.app h (.cons e .nil)
theorem Dst.addH {H0 H : Hp} {p g l k lr lh a : Addr} {rows : List Ins} {hs : List Hd} {h : Hd} {as : List Addr} (S : Dst K H0 H p g l k lr lh rows hs) (e : HandAt K H a h) (hl : H lh = some (.lst (as.map V.ref))) (hp : Paired (HandAt K H) as hs) :
    Dst K H0 (upd H lh (.lst (as.map V.ref ++ [.ref a]))) p g l k lr lh rows (hs ++ [h]) := by
  have kp : Keep [lh] H (upd H lh (.lst (as.map V.ref ++ [.ref a]))) := Keep.put (by simp)
  have nt : NoT H [lh] := noT_lst hl noT_nil
  refine ⟨S.kk.fresh S.n2, S.P.put S.o2, S.rows.keep kp nt (by simp; exact S.ne), ⟨as ++ [a], by rw [upd_same, List.map_append]; rfl, ?_⟩, S.n1, S.n2, S.o1, S.o2, S.ne⟩
  exact Paired.snoc (Paired.mapP hp fun a i e => sqT_keep kp nt e) (sqT_keep kp nt e)
theorem rd_law_drawn {vs H Q E} (T : Txt K w mg A) (h : sp_law_drawn K vs H Q E) : t_law_drawn K w A { nx := fun _ H' => Q .non H', rt := Q } (L2.start n_law_drawn vs) H := by
  obtain ⟨p, g, l, k, rfl, P, q⟩ := h
  unfold t_law_drawn
  show tSeq _ _ _ [some (V.ref p), some (V.ref k), none, none, none, none, none, none, none, none] H
  walk_at "go"
  refine ⟨(), rfl, fun H1 lw k1 n1 h1 => ?_⟩
  walk_at "go"
  rename_i l2 nl2
  refine go_cat (Keep.new (S := []) nl2 _ _ h1 (by simp)) upd_same (sz (by show 25 + 7 ≤ 100000; decide)) (fun l3 nl3 => ?_)
  have hws : (W25.map V.str ++ [V.str "branch", V.str "branch", V.str "branch", V.str "jump", V.str "jump", V.str "move", V.str "op"]) = (W25 ++ (["branch", "branch", "branch", "jump", "jump", "move", "op"] : List Str)).map V.str := rfl
  have hW : ∀ x ∈ W25 ++ (["branch", "branch", "branch", "jump", "jump", "move", "op"] : List Str), x ∈ W25 := by decide +kernel
  have hL : (W25 ++ (["branch", "branch", "branch", "jump", "jump", "move", "op"] : List Str)).length = 32 := by decide +kernel
  rw [hws]
  generalize (W25 ++ (["branch", "branch", "branch", "jump", "jump", "move", "op"] : List Str)) = ws at hW hL
  clear hws
  generalize hH2 : upd (upd H1 l2 _) l3 (.lst (ws.map V.str)) = H2
  have k2 : Keep [] H H2 := by subst hH2; walk_at "keep"
  have h2 : H2 l3 = some (.lst (ws.map V.str)) := by subst hH2; exact upd_same
  have nl30 : H l3 = none := by walk_at "free"
  clear hH2 nl3 nl2 h1 n1 k1
  have P2 := P.keep k2
  have kk2 : Keep [p, g, k] H H2 := keep0 k2
  have o3 := P.off4 nl30
  walk_at "go"
  refine ⟨p, g, l, 10, rfl, P2.box, by omega, by omega, fun size' H3 z0 z1 k3 B3 => ?_⟩
  have P3 := P2.draw k3 B3
  have kk3 := kk2.trans (keep2 (k := k) k3)
  have h3 := k3 _ _ h2 (off2 o3)
  clear k3 B3 P2 kk2 h2 k2
  obtain ⟨size, hsize⟩ : ∃ s, s = 1 + size' := ⟨_, rfl⟩
  have s1 : 1 ≤ size := by omega
  have s2 : size ≤ 10 := by omega
  walk_at "go"
  rw [← hsize]
  clear z0 z1 hsize size'
  rename_i lm nlm
  have P4 : Pot (upd H3 lm (.lst ([1, 2, 4, 7, 12, 28].map V.int))) p g l k := P3.keep (Keep.new nlm)
  refine ⟨p, g, l, 6, rfl, P4.box, by omega, by omega, fun r H4 r0 r1 k4 B4 => ?_⟩
  have h4 : H4 lm = some (.lst (([1, 2, 4, 7, 12, 28] : List Int).map V.int)) := k4 _ _ upd_same (P3.box.off nlm)
  have P5 := P4.draw k4 B4
  have kk4 : Keep [p, g, k] H H4 := (kk3.trans (Keep.new nlm)).trans (keep2 k4)
  have h34 : H4 l3 = some (.lst (ws.map V.str)) := k4 _ _ (Keep.new (S := []) nlm _ _ h3 (by simp)) (off2 o3)
  have hlt : r.toNat < ([1, 2, 4, 7, 12, 28] : List Int).length := by simp; omega
  refine go_ixL (sqL h4) (v := .int ([1, 2, 4, 7, 12, 28] : List Int)[r.toNat]) (at_nat r0 (by rw [List.getElem?_map, List.getElem?_eq_getElem hlt]; rfl)) ?_
  obtain ⟨n, en, n0, n5⟩ : ∃ n : Int, ([1, 2, 4, 7, 12, 28] : List Int)[r.toNat] = n ∧ 1 ≤ n ∧ n ≤ 28 := by
    refine ⟨_, rfl, ?_⟩
    have : ∀ x ∈ ([1, 2, 4, 7, 12, 28] : List Int), 1 ≤ x ∧ x ≤ 28 := by decide
    exact this _ (List.getElem_mem hlt)
  rw [en]
  clear h4 nlm en hlt P4 h3 kk3 P3 k4 B4
  walk_at "go"
  refine ⟨p, g, l, 3, rfl, P5.box, by omega, by omega, fun r2 H5 x0 x1 k5 B5 => ?_⟩
  have P6 := P5.draw k5 B5
  have kk6 := kk4.trans (keep2 (k := k) k5)
  have h6 := k5 _ _ h34 (off2 o3)
  clear k5 B5 P5 kk4 h34
  obtain ⟨many, hmany⟩ : ∃ s, s = n + r2 := ⟨_, rfl⟩
  walk_at "go"
  rw [← hmany]
  have m1 : 1 ≤ many := by omega
  have m2 : many ≤ 30 := by omega
  clear x0 x1 hmany
  refine ⟨_, rfl, by omega, by omega, ?_⟩
  refine go_lcR (fun Dn i H' => ∃ (as : List Addr) (is : List Ins), H' Dn = some (.lst (as.map V.ref)) ∧ is.length = i ∧ Paired (RowAt K H') as is ∧ (∀ x ∈ is, x.Ok many size) ∧ (∀ x o, H5 x = some o → x ∉ [p, g, k] → H' x = some o) ∧ Pot H' p g l k) (fun Dn hD => ?_) (fun Dn i H' hD hi pv => ?_) (fun Dn H' hD pv => ?_)
  · exact ⟨[], [], upd_same, rfl, .nil, by simp, fun x o e n => Keep.new (S := []) hD x o e (by simp), P6.keep (Keep.new hD)⟩
  · obtain ⟨as, is, h1, h2, h3, h4, h5, h7⟩ := pv
    have k7 : Keep [p, g, k] H5 H' := h5
    have oD := P6.off4 hD
    refine ⟨rfl, go_yes ?_⟩
    rw [if_pos rfl]
    walk_at "go"
    refine ⟨p, g, l, 32, rfl, h7.box, by omega, by omega, fun r H3 r0 r1 k3 B3 => ?_⟩
    have P7 := h7.draw k3 B3
    have hw3 : H3 l3 = some (.lst (ws.map V.str)) := k3 _ _ (k7 _ _ h6 (off3 o3)) (off2 o3)
    have hlt : r.toNat < ws.length := by omega
    refine go_ixL (sqL hw3) (v := .str ws[r.toNat]) (at_nat r0 (by rw [List.getElem?_map, List.getElem?_eq_getElem hlt]; rfl)) ?_
    walk_at "go"
    refine ⟨p, g, l, k, ws[r.toNat], many, size, rfl, P7, hW _ (List.getElem_mem hlt), s1, s2, m1, m2, fun a ins H8 k8 P8 ra ok _ => ?_⟩
    have hD3 := k3 _ _ h1 (off2 oD)
    have hD8 := k8 _ _ hD3 (off3 oD)
    have l1 := Paired.length h3
    refine ⟨_, hD8, ?_, as ++ [a], is ++ [ins], ?_, ?_, ?_, ?_, ?_, ?_⟩
    · rw [List.length_map, l1, h2]; exact szL (by omega)
    · rw [upd_same, List.map_append]; rfl
    · rw [List.length_append, h2]; rfl
    · have kp : Keep [Dn] H8 (upd H8 Dn (.lst (as.map V.ref ++ [.ref a]))) := Keep.put (by simp)
      have nt : NoT H8 [Dn] := noT_lst hD8 noT_nil
      exact Paired.snoc (Paired.mapP h3 fun a i e => ((e.keep k3 h7.box.noT).keep k8 P7.noT).keep kp nt) (ra.keep kp nt)
    · intro x hx
      rcases List.mem_append.1 hx with m | m
      · exact h4 x m
      · have := List.mem_singleton.1 m; subst this; exact ok
    · intro x o e n
      rw [upd_ne (ne_of_none e hD)]
      refine k8 _ _ (k3 _ _ (h5 x o e n) ?_) n
      simp only [List.mem_cons, List.not_mem_nil, or_false, not_or] at n ⊢
      exact ⟨n.1, n.2.1⟩
    · exact P8.put oD
  obtain ⟨as, is, h1, h2, h3, h4, h5, h7⟩ := pv
  have k7 : Keep [p, g, k] H5 H' := h5
  have oD := P6.off4 hD
  have nD : H Dn = none := by
    cases e : H Dn with
    | none => rfl
    | some o =>
      have := kk6 _ _ e (off3 oD)
      rw [this] at hD; cases hD
  have kk7 := kk6.trans k7
  clear k7 h5 kk6 P6 h6 hD
  walk_at "go"
  rename_i le nle
  have P8 : Pot (upd H' le (.lst ([("jump" : Str), "return", "fail"].map V.str))) p g l k := h7.keep (Keep.new nle)
  refine ⟨p, g, l, 3, rfl, P8.box, by omega, by omega, fun r H9 r0 r1 k9 B9 => ?_⟩
  have P9 := P8.draw k9 B9
  have h9 : H9 le = some (.lst ((["jump", "return", "fail"] : List Str).map V.str)) := k9 _ _ upd_same (h7.box.off nle)
  have hlt : r.toNat < (["jump", "return", "fail"] : List Str).length := by simp; omega
  refine go_ixL (sqL h9) (v := .str (["jump", "return", "fail"] : List Str)[r.toNat]) (at_nat r0 (by rw [List.getElem?_map, List.getElem?_eq_getElem hlt]; rfl)) ?_
  have hend : ∀ x ∈ (["jump", "return", "fail"] : List Str), x ∈ W25 ∧ (x = "jump" ∨ x = "return" ∨ x = "fail") := by decide +kernel
  have hend := hend _ (List.getElem_mem hlt)
  generalize (["jump", "return", "fail"] : List Str)[r.toNat] = wend at hend
  walk_at "go"
  refine ⟨p, g, l, k, wend, many, size, rfl, P9, hend.1, s1, s2, m1, m2, fun a ins H10 k10 P10 ra ok ew => ?_⟩
  have hD9 := k9 _ _ (Keep.new (S := []) (o := .lst ([("jump" : Str), "return", "fail"].map V.str)) nle _ _ h1 (by simp)) (off2 oD)
  have hD10 := k10 _ _ hD9 (off3 oD)
  have l1 := Paired.length h3
  have rows10 : Paired (RowAt K H10) as is := Paired.mapP h3 fun a i e => ((e.keep (Keep.new nle) noT_nil).keep k9 P8.box.noT).keep k10 P9.noT
  have kk10 : Keep [p, g, k] H H10 := ((kk7.trans (Keep.new nle)).trans (keep2 k9)).trans k10
  clear hlt h9 P9 P8 nle r0 r1 k9 B9 k10 hD9 h3 h1 kk7 h7
  walk_at "go"
  rename_i lh nlh li nli
  -- the rows stand
  have kp : Keep [Dn] H10 (upd H10 Dn (.lst (as.map V.ref ++ [.ref a]))) := Keep.put (by simp)
  have nt : NoT H10 [Dn] := noT_lst hD10 noT_nil
  have nlD : lh ≠ Dn := fun e => by rw [e, upd_same] at nlh; cases nlh
  have nlh10 : H10 lh = none := by rw [upd_ne nlD] at nlh; exact nlh
  have oh := P10.off4 nlh10
  have hrows : ∀ x ∈ is ++ [ins], x.Ok many size := fun x hx => by
    rcases List.mem_append.1 hx with m | m
    · exact h4 x m
    · have := List.mem_singleton.1 m; subst this; exact ok
  have hlen : (is ++ [ins]).length = many.toNat := by rw [List.length_append, h2, List.length_singleton]; omega
  have hlast : ∀ i, (is ++ [ins])[(is ++ [ins]).length - 1]? = some i → ends i := fun i e => by
    rw [List.length_append, List.length_singleton, Nat.add_sub_cancel, List.getElem?_append_right (Nat.le_refl _), Nat.sub_self] at e
    have := Option.some.inj e
    subst this
    unfold ends
    rw [ew]; exact hend.2
  have S0 : Dst K H (upd (upd H10 Dn (.lst (as.map V.ref ++ [.ref a]))) lh (.lst [])) p g l k Dn lh (is ++ [ins]) [] := by
    refine ⟨(kk10.fresh nD).trans (Keep.new nlh), (P10.put oD).keep (Keep.new nlh), ?_, ⟨[], upd_same, .nil⟩, nD, kk10.free nlh10 (off3 oh), oD, oh, fun e => nlD e.symm⟩
    refine RowsAt.keep (Keep.new nlh) noT_nil (by simp) ⟨as ++ [a], by rw [upd_same, List.map_append]; rfl, ?_⟩
    exact Paired.snoc (Paired.mapP rows10 fun a i e => e.keep kp nt) (ra.keep kp nt)
  have S1 := S0.new (o := .lst [.int 0, .int 1, .int 2, .int 4]) nli
  have hli : (upd (upd (upd H10 Dn (.lst (as.map V.ref ++ [.ref a]))) lh (.lst [])) li (.lst [.int 0, .int 1, .int 2, .int 4])) li = some (.lst (([0, 1, 2, 4] : List Int).map V.int)) := upd_same
  have oi := S0.P.off4 nli
  generalize (upd (upd (upd H10 Dn (.lst (as.map V.ref ++ [.ref a]))) lh (.lst [])) li (.lst [.int 0, .int 1, .int 2, .int 4])) = H11 at S1 hli
  generalize is ++ [ins] = rows at hrows hlen hlast S0 S1
  clear S0 nlh nli kp nt nlD nlh10 h2 h4 hD10 rows10 kk10 P10 ra ok hend ew hW hL nD oD oh
  refine ⟨p, g, l, 4, rfl, S1.P.box, by omega, by omega, fun r3 H12 r30 r31 k12 B12 => ?_⟩
  have S2 := S1.draw k12 B12
  have h12 := k12 _ _ hli (off2 oi)
  have hlt : r3.toNat < ([0, 1, 2, 4] : List Int).length := by simp; omega
  refine go_ixL (sqL h12) (v := .int ([0, 1, 2, 4] : List Int)[r3.toNat]) (at_nat r30 (by rw [List.getElem?_map, List.getElem?_eq_getElem hlt]; rfl)) ?_
  obtain ⟨cnt, en, n0, n4⟩ : ∃ n : Int, ([0, 1, 2, 4] : List Int)[r3.toNat] = n ∧ 0 ≤ n ∧ n ≤ 4 := by
    refine ⟨_, rfl, ?_⟩
    have : ∀ x ∈ ([0, 1, 2, 4] : List Int), 0 ≤ x ∧ x ≤ 4 := by decide
    exact this _ (List.getElem_mem hlt)
  rw [en]
  clear en hlt h12 hli k12 B12 S1 r30 r31
  walk_at "go"
  refine ⟨_, rfl, by omega, by omega, ?_⟩
  refine go_forR (fun i σ' H' => ∃ (x5 x8 x9 : Option V) (hs : List Hd), σ' = [some (V.ref p), some (V.ref k), some (V.ref l3), some (V.int size), some (V.int many), x5, some (V.ref Dn), some (V.ref lh), x8, x9] ∧ hs.length = i ∧ (∀ h ∈ hs, HdOk many size h) ∧ Dst K H H' p g l k Dn lh rows hs)
    ⟨none, none, none, [], rfl, rfl, by simp, S2⟩ ?_ ?_
  · rintro i σ' H' hi ⟨x5, x8, x9, hs, rfl, hl, ho, S⟩
    walk_at "go"
    refine ⟨p, g, l, many, rfl, S.P.box, m1, by omega, fun f1 H2 y0 y1 k2 B2 => ?_⟩
    have S3 := S.draw k2 B2
    walk_at "go"
    refine ⟨p, g, l, _, rfl, S3.P.box, by omega, by omega, fun f2 H3 y2 y3 k3 B3 => ?_⟩
    have S4 := S3.draw k3 B3
    obtain ⟨has4, hh4, hp4⟩ := S4.hs
    walk_at "go"
    refine ⟨p, g, l, many, rfl, S4.P.box, m1, by omega, fun f3 H4 y4 y5 k4 B4 => ?_⟩
    have S5 := S4.draw k4 B4
    walk_at "go"
    refine ⟨p, g, l, size, rfl, S5.P.box, s1, by omega, fun f4 H5 y6 y7 k5 B5 => ?_⟩
    have S6 := S5.draw k5 B5
    walk_at "go"
    rename_i tp ntp
    have S7 := S6.new (o := .tup [.int f1, .int (f1 + f2), .int f3, .int f4]) ntp
    obtain ⟨has, hh, hp⟩ := S7.hs
    have hl2 := Paired.length hp
    refine go_app hh (szL (by rw [List.length_map]; omega)) ?_
    refine ⟨_, _, _, hs ++ [(f1, f1 + f2, f3, f4)], rfl, by rw [List.length_append, hl]; rfl, ?_, S7.addH (h := (f1, f1 + f2, f3, f4)) (sqT upd_same) hh hp⟩
    intro h hm
    rcases List.mem_append.1 hm with m | m
    · exact ho h m
    · have := List.mem_singleton.1 m; subst this; exact ⟨⟨y4, y5⟩, ⟨y6, y7⟩⟩
  · rintro σ' H' ⟨x5, x8, x9, hs, rfl, hl, ho, S⟩
    have hl4 : hs.length ≤ 4 := by omega
    obtain ⟨has, hh, hp⟩ := S.hs
    have hl2 := Paired.length hp
    -- the end, from any list of handlers
    have fin : ∀ (σ' : L2.St) (H' : Hp), (∃ (hs : List Hd), σ' = [some (V.ref p), some (V.ref k), some (V.ref l3), some (V.int size), some (V.int many), x5, some (V.ref Dn), some (V.ref lh), x8, x9] ∧ hs.length ≤ 5 ∧ (∀ h ∈ hs, HdOk many size h) ∧ Dst K H H' p g l k Dn lh rows hs) →
        tRet (tLst (tCons (tCall (sp_law_word K) [] E0 (tCons (tVar 0) (tCons (tVar 1) tNil))) (tCons (tCall (sp_law_draw K) [] E0 (tCons (tVar 0) (tCons (tOp rAddI (tVar 3) (tC (.int 1))) tNil))) (tCons (tVar 3) (tCons (tVar 6) (tCons (tVar 7) tNil)))))) { nx := fun _ H' => Q .non H', rt := Q } σ' H' := by
      rintro σ' H' ⟨hs, rfl, hl, ho, S⟩
      walk_at "go"
      refine ⟨p, g, l, k, rfl, S.P, fun nm H2 W k2 P2 => ?_⟩
      have S3 := S.pot k2 P2
      walk_at "go"
      refine ⟨p, g, l, _, rfl, S3.P.box, by omega, by omega, fun pa H3 y0 y1 k3 B3 => ?_⟩
      have S4 := S3.draw k3 B3
      walk_at "go"
      rename_i lq nlq
      have S5 := S4.new (o := .lst [.str nm, .int pa, .int size, .ref Dn, .ref lh]) nlq
      have oq := S4.P.off4 nlq
      have el : (rows.length : Int) = many := by rw [hlen]; omega
      refine q lq Dn lh ⟨nm, pa, size, rows, hs⟩ _ S5.kk S5.P (S4.kk.free nlq (off3 oq)) S5.n1 S5.n2 ⟨upd_same, S5.rows, S5.hs⟩ ⟨W, s1, s2, ?_, ?_, ?_, hlast, ?_, hl⟩
      · show 1 ≤ rows.length
        omega
      · show rows.length ≤ 30
        omega
      · show ∀ i ∈ rows, i.Ok rows.length size
        rw [el]; exact hrows
      · show ∀ h ∈ hs, HdOk rows.length size h
        rw [el]; exact ho
    dsimp only
    refine seq_rest (fun σ' H' => ∃ (hs : List Hd), σ' = [some (V.ref p), some (V.ref k), some (V.ref l3), some (V.int size), some (V.int many), x5, some (V.ref Dn), some (V.ref lh), x8, x9] ∧ hs.length ≤ 5 ∧ (∀ h ∈ hs, HdOk many size h) ∧ Dst K H H' p g l k Dn lh rows hs) (fun σ' H' h => fin σ' H' h) (fun rest => ?_)
    refine go_ifS ?_
    walk_at "ex"
    refine go_ite (fun h2 => ?_) (fun h2 => ?_)
    · rw [List.length_map] at h2
      refine go_drop ?_
      refine go_bm ?_
      walk_at "ex"
      refine ⟨p, g, l, 2, rfl, S.P.box, by omega, by omega, fun f H2 y0 y1 k2 B2 => ?_⟩
      have S3 := S.draw k2 B2
      obtain ⟨has', hh', hp'⟩ := S3.hs
      have hl3 := Paired.length hp'
      have hlt : f.toNat < has'.length := by omega
      refine go_ixL (sqL hh') (v := .ref has'[f.toNat]) (at_nat y0 (by rw [List.getElem?_map, List.getElem?_eq_getElem hlt]; rfl)) ?_
      obtain ⟨hv, ev, hF⟩ := Rf.Paired.get hp' (List.getElem?_eq_getElem hlt)
      walk_at "ex"
      refine rest _ _ ⟨hs ++ [hv], rfl, by rw [List.length_append, List.length_singleton]; omega, ?_, S3.addH hF hh' hp'⟩
      intro h hm
      rcases List.mem_append.1 hm with m | m
      · exact ho h m
      · have := List.mem_singleton.1 m; subst this; exact ho _ (List.mem_of_getElem? ev)
    · exact go_next (rest _ _ ⟨hs, rfl, by omega, ho, S⟩)
end LW
end
section
namespace LW
open CM
open PySem.PyData (strOk)
variable {K : PySem.W.Frag} {w : World} {mg : Str → Option Value} {A : Adr}
local macro_rules | `(tactic| walk_at "dec") => `(tactic| first | refine go_ite_t (by decide +kernel) ?_ | refine go_ite_f (by decide +kernel) ?_)
/-- the values of a row; z: of the last part that is not flat -/
def rowV (z : V) : Ins → List V
  | .const a _ => [.str "const", .int a, z]
  | .two w a b => [.str w, .int a, .int b]
  | .op n a b c => [.str "op", .str n, .int a, .int b, .int c]
  | .jump t => [.str "jump", .int t]
  | .branch a t => [.str "branch", .int a, .int t]
  | .nam w a n => [.str w, .int a, .str n]
  | .setg n a => [.str "setg", .str n, .int a]
  | .get a b n => [.str "get", .int a, .int b, .str n]
  | .put a n b => [.str "put", .int a, .str n, .int b]
  | .three w a b c => [.str w, .int a, .int b, .int c]
  | .call a n _ => [.str "call", .int a, .str n, z]
  | .callv a b _ => [.str "callv", .int a, .int b, z]
  | .meth a b n _ => [.str "method", .int a, .int b, .str n, z]
  | .spawn n _ => [.str "spawn", .str n, z]
  | .pause => [.str "pause"]
  | .one w a => [.str w, .int a]
def given : Ins → Option (List Int)
  | .call _ _ g => some g
  | .callv _ _ g => some g
  | .meth _ _ _ g => some g
  | .spawn _ g => some g
  | _ => none
theorem dpA_ints_inv {H : Hp} : ∀ {g : List Int} {vs : List V}, DpAll K H vs (intsD g) → vs = g.map V.int
  | [], _, h => by cases h; rfl
  | x :: g, _, h => by
    cases h with
    | cons a b =>
      cases a
      rw [dpA_ints_inv (g := g) b]; rfl
theorem dp_ints_inv {H : Hp} {g : List Int} {v : V} (h : Dp K H v (.tuple (intsD g))) : ∃ t, v = .ref t ∧ SqT K H t (g.map V.int) := by
  cases h with
  | tup s a => rw [dpA_ints_inv a] at s; exact ⟨_, rfl, s⟩
theorem row_inv {H : Hp} {a : Addr} {i : Ins} (h : RowAt K H a i) : ∃ z, SqT K H a (rowV z i) ∧ ∀ g, given i = some g → ∃ t, z = .ref t ∧ SqT K H t (g.map V.int) := by
  obtain ⟨h, _⟩ := h
  cases h with
  | tup s d =>
    cases i with
    | const x y => cases d with | cons a1 d => cases d with | cons a2 d => cases d with | cons a3 d => cases d; cases a1; cases a2; exact ⟨_, s, fun g e => by cases e⟩
    | two x y z => cases d with | cons a1 d => cases d with | cons a2 d => cases d with | cons a3 d => cases d; cases a1; cases a2; cases a3; exact ⟨.non, s, fun g e => by cases e⟩
    | op n x y z => cases d with | cons a1 d => cases d with | cons a2 d => cases d with | cons a3 d => cases d with | cons a4 d => cases d with | cons a5 d => cases d; cases a1; cases a2; cases a3; cases a4; cases a5; exact ⟨.non, s, fun g e => by cases e⟩
    | jump x => cases d with | cons a1 d => cases d with | cons a2 d => cases d; cases a1; cases a2; exact ⟨.non, s, fun g e => by cases e⟩
    | branch x y => cases d with | cons a1 d => cases d with | cons a2 d => cases d with | cons a3 d => cases d; cases a1; cases a2; cases a3; exact ⟨.non, s, fun g e => by cases e⟩
    | nam x y z => cases d with | cons a1 d => cases d with | cons a2 d => cases d with | cons a3 d => cases d; cases a1; cases a2; cases a3; exact ⟨.non, s, fun g e => by cases e⟩
    | setg x y => cases d with | cons a1 d => cases d with | cons a2 d => cases d with | cons a3 d => cases d; cases a1; cases a2; cases a3; exact ⟨.non, s, fun g e => by cases e⟩
    | get x y z => cases d with | cons a1 d => cases d with | cons a2 d => cases d with | cons a3 d => cases d with | cons a4 d => cases d; cases a1; cases a2; cases a3; cases a4; exact ⟨.non, s, fun g e => by cases e⟩
    | put x y z => cases d with | cons a1 d => cases d with | cons a2 d => cases d with | cons a3 d => cases d with | cons a4 d => cases d; cases a1; cases a2; cases a3; cases a4; exact ⟨.non, s, fun g e => by cases e⟩
    | three w x y z => cases d with | cons a1 d => cases d with | cons a2 d => cases d with | cons a3 d => cases d with | cons a4 d => cases d; cases a1; cases a2; cases a3; cases a4; exact ⟨.non, s, fun g e => by cases e⟩
    | call x y z => cases d with | cons a1 d => cases d with | cons a2 d => cases d with | cons a3 d => cases d with | cons a4 d => cases d; cases a1; cases a2; cases a3; exact ⟨_, s, fun g e => by cases e; exact dp_ints_inv a4⟩
    | callv x y z => cases d with | cons a1 d => cases d with | cons a2 d => cases d with | cons a3 d => cases d with | cons a4 d => cases d; cases a1; cases a2; cases a3; exact ⟨_, s, fun g e => by cases e; exact dp_ints_inv a4⟩
    | meth x y n z => cases d with | cons a1 d => cases d with | cons a2 d => cases d with | cons a3 d => cases d with | cons a4 d => cases d with | cons a5 d => cases d; cases a1; cases a2; cases a3; cases a4; exact ⟨_, s, fun g e => by cases e; exact dp_ints_inv a5⟩
    | spawn y z => cases d with | cons a1 d => cases d with | cons a2 d => cases d with | cons a3 d => cases d; cases a1; cases a2; exact ⟨_, s, fun g e => by cases e; exact dp_ints_inv a3⟩
    | pause => cases d with | cons a1 d => cases d; cases a1; exact ⟨.non, s, fun g e => by cases e⟩
    | one x y => cases d with | cons a1 d => cases d with | cons a2 d => cases d; cases a1; cases a2; exact ⟨.non, s, fun g e => by cases e⟩
def fI (xs : List V) (p : Int) : Int := match xs[p.toNat]? with | some (.int v) => v | _ => 0
theorem slots_core {a : Addr} {H : Hp} {Q : VK} (T : Txt K w mg A) {xs : List V} {wd : Str} {pl out : List Int} (hs : SqT K H a xs) (h0 : atI xs 0 = some (.str wd)) (hm : (wd, pl) ∈ wd_READS) (hl : pl.length ≤ 3) (hp : ∀ p ∈ pl, atI xs p = some (.int (fI xs p)))
    (hL : ((wd, none) ∈ wd_LISTS ∧ out = pl.map (fI xs)) ∨ ∃ n t g, (wd, some n) ∈ wd_LISTS ∧ atI xs n = some (.ref t) ∧ SqT K H t (g.map V.int) ∧ g.length ≤ 5 ∧ out = pl.map (fI xs) ++ g)
    (q : ∀ (H' : Hp) (l : Addr), Keep [] H H' → H l = none → H' l = some (.lst (out.map V.int)) → Q (.ref l) H') :
    t_slots_read K w A { nx := fun _ H' => Q .non H', rt := Q } (L2.start n_slots_read [.ref a]) H := by
  unfold t_slots_read
  show tSeq _ _ _ [some (V.ref a), none, none] H
  walk_at "go"
  obtain ⟨t, hw, ht⟩ := T.x_READS _ hm
  refine go_ixT hs h0 (go_ixW T.w_READS hw ?_)
  refine go_lcTM (ht H) (fun v => match v with | .int p => .int (fI xs p) | y => y) (szL (by rw [List.length_map]; show pl.length < _; omega)) (fun v => rfl) (fun x hx H' R k hr => ?_) (fun Dn nD => ?_)
  · obtain ⟨p, hpm, rfl⟩ := List.mem_map.1 hx
    walk_at "go"
    exact go_ixT (k.tup (by simp) hs) (hp p hpm) hr
  have e1 : (pl.map V.int).map (fun v => match v with | .int p => V.int (fI xs p) | y => y) = (pl.map (fI xs)).map V.int := by
    rw [List.map_map, List.map_map]; rfl
  rw [e1]
  have k1 : Keep [] H (upd H Dn (.lst ((pl.map (fI xs)).map V.int))) := Keep.new nD
  walk_at "go"
  refine go_ixT (k1.tup (by simp) hs) h0 ?_
  walk_at "go"
  rcases hL with ⟨m, rfl⟩ | ⟨n, t2, g, m, hn, hg, gl, rfl⟩
  · refine go_inW T.w_LISTS (T.x_LISTS _ m) ?_
    walk_at "ex"
    show if false = true then _ else _
    refine go_iteF ?_
    walk_at "go"
    exact q _ Dn k1 nD upd_same
  · refine go_inW T.w_LISTS (T.x_LISTS _ m) ?_
    walk_at "ex"
    show if true = true then _ else _
    refine go_iteT ?_
    walk_at "go"
    refine go_ixT (k1.tup (by simp) hs) h0 (go_ixW T.w_LISTS (T.x_LISTS _ m) (go_ixT (k1.tup (by simp) hs) hn ?_))
    walk_at "ex"
    refine go_extT upd_same (k1.tup (by simp) hg) (sz (by simp only [List.length_map]; omega)) ?_
    walk_at "go"
    refine q _ Dn (by walk_at "keep") nD ?_
    rw [upd_same, List.map_append]
theorem rd_slots_read {vs H Q E} (T : Txt K w mg A) (h : sp_slots_read K vs H Q E) : t_slots_read K w A { nx := fun _ H' => Q .non H', rt := Q } (L2.start n_slots_read vs) H := by
  obtain ⟨a, i, m, s, rfl, hr, ok, q⟩ := h
  obtain ⟨z, hs, hz⟩ := row_inv hr
  cases i with
  | const x y => exact slots_core T hs rfl (pl := []) (by decide +kernel) (by decide) (by simp) (Or.inl ⟨by decide +kernel, rfl⟩) q
  | two wd x y =>
    obtain ⟨e, _⟩ := ok
    rcases e with rfl | rfl | rfl | rfl <;> exact slots_core T hs rfl (pl := [2]) (by decide +kernel) (by decide) (by simp; rfl) (Or.inl ⟨by decide +kernel, rfl⟩) q
  | op n x y z => exact slots_core T hs rfl (pl := [3, 4]) (by decide +kernel) (by decide) (by simp; exact ⟨rfl, rfl⟩) (Or.inl ⟨by decide +kernel, rfl⟩) q
  | jump x => exact slots_core T hs rfl (pl := []) (by decide +kernel) (by decide) (by simp) (Or.inl ⟨by decide +kernel, rfl⟩) q
  | branch x y => exact slots_core T hs rfl (pl := [1]) (by decide +kernel) (by decide) (by simp; rfl) (Or.inl ⟨by decide +kernel, rfl⟩) q
  | nam wd x y =>
    obtain ⟨e, _⟩ := ok
    rcases e with rfl | rfl | rfl
    · exact slots_core T hs rfl (pl := []) (by decide +kernel) (by decide) (by simp) (Or.inl ⟨by decide +kernel, rfl⟩) q
    · exact slots_core T hs rfl (pl := []) (by decide +kernel) (by decide) (by simp) (Or.inl ⟨by decide +kernel, rfl⟩) q
    · exact slots_core T hs rfl (pl := [1]) (by decide +kernel) (by decide) (by simp; rfl) (Or.inl ⟨by decide +kernel, rfl⟩) q
  | setg x y => exact slots_core T hs rfl (pl := [2]) (by decide +kernel) (by decide) (by simp; rfl) (Or.inl ⟨by decide +kernel, rfl⟩) q
  | get x y z => exact slots_core T hs rfl (pl := [2]) (by decide +kernel) (by decide) (by simp; rfl) (Or.inl ⟨by decide +kernel, rfl⟩) q
  | put x y z => exact slots_core T hs rfl (pl := [1, 3]) (by decide +kernel) (by decide) (by simp; exact ⟨rfl, rfl⟩) (Or.inl ⟨by decide +kernel, rfl⟩) q
  | three wd x y z =>
    obtain ⟨e, _⟩ := ok
    rcases e with rfl | rfl
    · exact slots_core T hs rfl (pl := [2, 3]) (by decide +kernel) (by decide) (by simp; exact ⟨rfl, rfl⟩) (Or.inl ⟨by decide +kernel, rfl⟩) q
    · exact slots_core T hs rfl (pl := [1, 2, 3]) (by decide +kernel) (by decide) (by simp; exact ⟨rfl, rfl, rfl⟩) (Or.inl ⟨by decide +kernel, rfl⟩) q
  | call x y g =>
    obtain ⟨t, rfl, ht⟩ := hz g rfl
    exact slots_core T hs rfl (pl := []) (by decide +kernel) (by decide) (by simp) (Or.inr ⟨3, t, g, by decide +kernel, rfl, ht, ok.2.2.2, rfl⟩) q
  | callv x y g =>
    obtain ⟨t, rfl, ht⟩ := hz g rfl
    exact slots_core T hs rfl (pl := [2]) (by decide +kernel) (by decide) (by simp; rfl) (Or.inr ⟨3, t, g, by decide +kernel, rfl, ht, ok.2.2.2, rfl⟩) q
  | meth x y n g =>
    obtain ⟨t, rfl, ht⟩ := hz g rfl
    exact slots_core T hs rfl (pl := [2]) (by decide +kernel) (by decide) (by simp; rfl) (Or.inr ⟨4, t, g, by decide +kernel, rfl, ht, ok.2.2.2.2, rfl⟩) q
  | spawn n g =>
    obtain ⟨t, rfl, ht⟩ := hz g rfl
    exact slots_core T hs rfl (pl := []) (by decide +kernel) (by decide) (by simp) (Or.inr ⟨2, t, g, by decide +kernel, rfl, ht, ok.2.2, rfl⟩) q
  | pause => exact slots_core T hs rfl (pl := []) (by decide +kernel) (by decide) (by simp) (Or.inl ⟨by decide +kernel, rfl⟩) q
  | one wd x =>
    obtain ⟨e, _⟩ := ok
    rcases e with rfl | rfl | rfl | rfl <;> exact slots_core T hs rfl (pl := [1]) (by decide +kernel) (by decide) (by simp; rfl) (Or.inl ⟨by decide +kernel, rfl⟩) q
theorem target_core {a : Addr} {H : Hp} {Q : VK} (T : Txt K w mg A) {xs : List V} {wd : Str} {o : Option Int} (hs : SqT K H a xs) (h0 : atI xs 0 = some (.str wd)) (hm : (wd, o) ∈ wd_WRITES) (ho : ∀ n, o = some n → atI xs n = some (.int (fI xs n)))
    (q : Q (optV (o.map (fI xs))) H) : t_target K w A { nx := fun _ H' => Q .non H', rt := Q } (L2.start n_target [.ref a]) H := by
  unfold t_target
  show tSeq _ _ _ [some (V.ref a), none] H
  refine go_seq (go_asgN (go_getW (go_c ⟨_, rfl, T.w_WRITES, ?_⟩)))
  walk_at "ex"
  refine go_ixT hs h0 ⟨_, _, rfl, T.x_WRITES _ hm, ?_⟩
  cases o with
  | none =>
    show tSeq _ _ _ [some (V.ref a), some V.non] H
    walk_at "go"
    exact q
  | some n =>
    show tSeq _ _ _ [some (V.ref a), some (V.int n)] H
    walk_at "go"
    exact go_ixT hs (ho n rfl) q
theorem rd_target {vs H Q E} (T : Txt K w mg A) (h : sp_target K vs H Q E) : t_target K w A { nx := fun _ H' => Q .non H', rt := Q } (L2.start n_target vs) H := by
  obtain ⟨a, i, m, s, rfl, hr, ok, q⟩ := h
  obtain ⟨z, hs, hz⟩ := row_inv hr
  have n1 : ∀ {o : Option Int}, o = none → ∀ n, o = some n → atI (rowV z i) n = some (.int (fI (rowV z i) n)) := fun e n e2 => by rw [e] at e2; cases e2
  cases i with
  | const x y => exact target_core T hs rfl (o := some 1) (by decide +kernel) (fun n e => by cases e; rfl) q
  | two wd x y =>
    obtain ⟨e, _⟩ := ok
    rcases e with rfl | rfl | rfl | rfl <;> exact target_core T hs rfl (o := some 1) (by decide +kernel) (fun n e => by cases e; rfl) q
  | op n x y z => exact target_core T hs rfl (o := some 2) (by decide +kernel) (fun n e => by cases e; rfl) q
  | jump x => exact target_core T hs rfl (o := none) (by decide +kernel) (n1 rfl) q
  | branch x y => exact target_core T hs rfl (o := none) (by decide +kernel) (n1 rfl) q
  | nam wd x y =>
    obtain ⟨e, _⟩ := ok
    rcases e with rfl | rfl | rfl
    · exact target_core T hs rfl (o := some 1) (by decide +kernel) (fun n e => by cases e; rfl) q
    · exact target_core T hs rfl (o := some 1) (by decide +kernel) (fun n e => by cases e; rfl) q
    · exact target_core T hs rfl (o := none) (by decide +kernel) (n1 rfl) q
  | setg x y => exact target_core T hs rfl (o := none) (by decide +kernel) (n1 rfl) q
  | get x y z => exact target_core T hs rfl (o := some 1) (by decide +kernel) (fun n e => by cases e; rfl) q
  | put x y z => exact target_core T hs rfl (o := none) (by decide +kernel) (n1 rfl) q
  | three wd x y z =>
    obtain ⟨e, _⟩ := ok
    rcases e with rfl | rfl
    · exact target_core T hs rfl (o := some 1) (by decide +kernel) (fun n e => by cases e; rfl) q
    · exact target_core T hs rfl (o := none) (by decide +kernel) (n1 rfl) q
  | call x y g => exact target_core T hs rfl (o := some 1) (by decide +kernel) (fun n e => by cases e; rfl) q
  | callv x y g => exact target_core T hs rfl (o := some 1) (by decide +kernel) (fun n e => by cases e; rfl) q
  | meth x y n g => exact target_core T hs rfl (o := some 1) (by decide +kernel) (fun n e => by cases e; rfl) q
  | spawn n g => exact target_core T hs rfl (o := none) (by decide +kernel) (n1 rfl) q
  | pause => exact target_core T hs rfl (o := none) (by decide +kernel) (n1 rfl) q
  | one wd x =>
    obtain ⟨e, _⟩ := ok
    rcases e with rfl | rfl | rfl | rfl <;> exact target_core T hs rfl (o := none) (by decide +kernel) (n1 rfl) q
end LW
end
section
namespace LW
open CM
open PySem.PyData (strOk)
variable {K : PySem.W.Frag} {w : World} {mg : Str → Option Value} {A : Adr}
abbrev tb1 : List (Str × List Int) := [("move", [2]), ("op", [3, 4]), ("not", [2]), ("branch", [1]), ("setg", [2]), ("get", [2]), ("put", [1, 3])]
abbrev tb2 : List (Str × List Int) := [("drop", [1]), ("array", [2]), ("at", [2, 3]), ("setat", [1, 2, 3]), ("len", [2]), ("return", [1])]
theorem places_core {a lp : Addr} {H : Hp} {Q : VK} {xs : List V} {pl : List Int} (hs : SqT K H a xs) (hl : H lp = some (.lst (pl.map V.int))) (hn : pl.length ≤ 3) (hp : ∀ p ∈ pl, atI xs p = some (.int (fI xs p))) (x1 x2 x3 x4 : Option V)
    (q : ∀ l, H l = none → Q (.ref l) (upd H l (.lst ((pl.map (fI xs)).map V.int)))) :
    ∃ a', V.ref lp = .ref a' ∧ (∃ xs, SqL K H a' xs) ∧ LcQ (Itl K a') (gName 4) tYes (tOp (rIxT K) (tVar 0) (tVar 4)) [4] Q [some (.ref a), x1, x2, x3, x4] H := by
  refine go_lcM (sqL hl) (fun v => match v with | .int p => .int (fI xs p) | y => y) (szL (by rw [List.length_map]; omega)) (fun v => rfl) (fun x hx H' R k hr => ?_) (fun Dn nD => ?_)
  · obtain ⟨p, hpm, rfl⟩ := List.mem_map.1 hx
    walk_at "ex"
    exact go_ixT (k.tup (by simp) hs) (hp p hpm) hr
  · have e1 : (pl.map V.int).map (fun v => match v with | .int p => V.int (fI xs p) | y => y) = (pl.map (fI xs)).map V.int := by
      rw [List.map_map, List.map_map]; rfl
    rw [e1]
    exact q Dn nD
theorem read_core {a : Addr} {H : Hp} {Q : VK} {xs : List V} {wd : Str} {out : List Int} (hs : SqT K H a xs) (h0 : atI xs 0 = some (.str wd)) (c1 : ¬ wd ∈ (["call", "spawn"] : List Str)) (c2 : ¬ wd ∈ (["callv", "method"] : List Str))
    (c : (∃ pl, tblGet tb1 wd = some pl ∧ pl.length ≤ 3 ∧ (∀ p ∈ pl, atI xs p = some (.int (fI xs p))) ∧ out = pl.map (fI xs)) ∨
      (∃ pl, tblGet tb1 wd = none ∧ tblGet tb2 wd = some pl ∧ pl.length ≤ 3 ∧ (∀ p ∈ pl, atI xs p = some (.int (fI xs p))) ∧ out = pl.map (fI xs)) ∨
      (tblGet tb1 wd = none ∧ tblGet tb2 wd = none ∧ wd ∈ (["say", "fail", "load"] : List Str) ∧ atI xs 1 = some (.int (fI xs 1)) ∧ out = [fI xs 1]) ∨
      (tblGet tb1 wd = none ∧ tblGet tb2 wd = none ∧ ¬ wd ∈ (["say", "fail", "load"] : List Str) ∧ out = []))
    (q : ∀ (H' : Hp) (l : Addr), Keep [] H H' → H l = none → H' l = some (.lst (out.map V.int)) → Q (.ref l) H') :
    t_law_read K w A { nx := fun _ H' => Q .non H', rt := Q } (L2.start n_law_read [.ref a]) H := by
  unfold t_law_read
  show tSeq _ _ _ [some (V.ref a), none, none, none, none] H
  walk_at "go"
  refine go_ixT hs h0 ?_
  walk_at "go"
  rename_i l1 n1
  refine go_inS (ws := ["call", "spawn"]) (sqL upd_same) ?_
  walk_at "ex"
  refine go_ite_f c1 ?_
  walk_at "go"
  rename_i l2 n2
  refine go_inS (ws := ["callv", "method"]) (sqL upd_same) ?_
  walk_at "ex"
  refine go_ite_f c2 ?_
  walk_at "stm"
  walk_at "stm"
  walk_at "stm"
  refine go_tbl tb1 rfl (by decide +kernel) (by decide) (by decide) (fun d1 H1 nd1 k1 t1 => ?_)
  walk_at "stm"
  walk_at "stm"
  refine go_tbl tb2 rfl (by decide +kernel) (by decide) (by decide) (fun d2 H2 nd2 k2 t2 => ?_)
  have kk : Keep [] H H2 := ((((Keep.refl (S := [])).trans (Keep.new n1)).trans (Keep.new n2)).trans k1).trans k2
  have t1' := t1.keep (S := []) k2
  have hs2 := kk.tup (by simp) hs
  clear n1 n2 k1 t1 nd1 nd2 k2
  walk_at "go"
  rcases c with ⟨pl, e1, hn, hp, rfl⟩ | ⟨pl, e1, e2, hn, hp, rfl⟩ | ⟨e1, e2, e3, hp, rfl⟩ | ⟨e1, e2, e3, rfl⟩
  · obtain ⟨lp, h1, h2⟩ := t1'.some e1
    refine go_dinE h2 ?_
    walk_at "ex"
    show if true = true then _ else _
    refine go_iteT ?_
    walk_at "go"
    refine ⟨_, _, rfl, h2, ?_⟩
    refine places_core hs2 h1 hn hp _ _ _ _ (fun l nl => ?_)
    exact q _ l (kk.trans (Keep.new nl)) (kk.free nl (by simp)) upd_same
  · refine go_dinE (t1'.none e1) ?_
    walk_at "ex"
    show if false = true then _ else _
    refine go_iteF ?_
    walk_at "go"
    obtain ⟨lp, h1, h2⟩ := t2.some e2
    refine go_dinE h2 ?_
    walk_at "ex"
    show if true = true then _ else _
    refine go_iteT ?_
    walk_at "go"
    refine ⟨_, _, rfl, h2, ?_⟩
    refine places_core hs2 h1 hn hp _ _ _ _ (fun l nl => ?_)
    exact q _ l (kk.trans (Keep.new nl)) (kk.free nl (by simp)) upd_same
  · refine go_dinE (t1'.none e1) ?_
    walk_at "ex"
    show if false = true then _ else _
    refine go_iteF ?_
    walk_at "go"
    refine go_dinE (t2.none e2) ?_
    walk_at "ex"
    show if false = true then _ else _
    refine go_iteF ?_
    walk_at "go"
    rename_i l3 n3
    refine go_inS (ws := ["say", "fail", "load"]) (sqL upd_same) ?_
    walk_at "ex"
    refine go_ite_t e3 ?_
    walk_at "go"
    refine go_ixT (sqT_upd hs2 n3) hp ?_
    walk_at "go"
    rename_i l4 n4
    exact q _ l4 (by walk_at "keep") (by walk_at "free") upd_same
  · refine go_dinE (t1'.none e1) ?_
    walk_at "ex"
    show if false = true then _ else _
    refine go_iteF ?_
    walk_at "go"
    refine go_dinE (t2.none e2) ?_
    walk_at "ex"
    show if false = true then _ else _
    refine go_iteF ?_
    walk_at "go"
    rename_i l3 n3
    refine go_inS (ws := ["say", "fail", "load"]) (sqL upd_same) ?_
    walk_at "ex"
    refine go_ite_f e3 ?_
    walk_at "go"
    rename_i l4 n4
    exact q _ l4 (by walk_at "keep") (by walk_at "free") upd_same
/-- where the last part is the given slots -/
theorem read_given {a t : Addr} {H : Hp} {Q : VK} {xs : List V} {wd : Str} {g : List Int} (hs : SqT K H a xs) (h0 : atI xs 0 = some (.str wd)) (c1 : wd ∈ (["call", "spawn"] : List Str)) (hl : atI xs (-1) = some (.ref t)) (ht : SqT K H t (g.map V.int))
    (q : ∀ (H' : Hp) (l : Addr), Keep [] H H' → H l = none → H' l = some (.lst (g.map V.int)) → Q (.ref l) H') :
    t_law_read K w A { nx := fun _ H' => Q .non H', rt := Q } (L2.start n_law_read [.ref a]) H := by
  unfold t_law_read
  show tSeq _ _ _ [some (V.ref a), none, none, none, none] H
  walk_at "go"
  refine go_ixT hs h0 ?_
  walk_at "go"
  rename_i l1 n1
  refine go_inS (ws := ["call", "spawn"]) (sqL upd_same) ?_
  walk_at "ex"
  refine go_ite_t c1 ?_
  walk_at "go"
  refine go_un ?_
  walk_at "ex"
  refine go_neg (go_ixT (sqT_upd hs n1) hl ?_)
  walk_at "ex"
  refine go_listT (sqT_upd ht n1) (fun l nl => ?_)
  exact q _ l (by walk_at "keep") (by walk_at "free") upd_same
theorem read_given1 {a t : Addr} {H : Hp} {Q : VK} {xs : List V} {wd : Str} {g : List Int} {b : Int} (hs : SqT K H a xs) (h0 : atI xs 0 = some (.str wd)) (c1 : ¬ wd ∈ (["call", "spawn"] : List Str)) (c2 : wd ∈ (["callv", "method"] : List Str)) (hl : atI xs (-1) = some (.ref t)) (hb : atI xs 2 = some (.int b)) (ht : SqT K H t (g.map V.int)) (hg : g.length ≤ 5)
    (q : ∀ (H' : Hp) (l : Addr), Keep [] H H' → H l = none → H' l = some (.lst ((b :: g).map V.int)) → Q (.ref l) H') :
    t_law_read K w A { nx := fun _ H' => Q .non H', rt := Q } (L2.start n_law_read [.ref a]) H := by
  unfold t_law_read
  show tSeq _ _ _ [some (V.ref a), none, none, none, none] H
  walk_at "go"
  refine go_ixT hs h0 ?_
  walk_at "go"
  rename_i l1 n1
  refine go_inS (ws := ["call", "spawn"]) (sqL upd_same) ?_
  walk_at "ex"
  refine go_ite_f c1 ?_
  walk_at "go"
  rename_i l2 n2
  refine go_inS (ws := ["callv", "method"]) (sqL upd_same) ?_
  walk_at "ex"
  refine go_ite_t c2 ?_
  walk_at "go"
  refine go_ixT (sqT_upd (sqT_upd hs n1) n2) hb ?_
  walk_at "go"
  rename_i l3 n3
  refine go_un ?_
  walk_at "ex"
  refine go_neg (go_ixT (sqT_upd (sqT_upd (sqT_upd hs n1) n2) n3) hl ?_)
  walk_at "ex"
  refine go_listT (sqT_upd (sqT_upd (sqT_upd ht n1) n2) n3) (fun l4 n4 => ?_)
  refine go_cat (by walk_at "look") upd_same (sz (by simp only [List.length_cons, List.length_nil, List.length_map]; omega)) (fun l5 n5 => ?_)
  exact q _ l5 (by walk_at "keep") (by walk_at "free") upd_same
theorem rd_law_read {vs H Q E} (T : Txt K w mg A) (h : sp_law_read K vs H Q E) : t_law_read K w A { nx := fun _ H' => Q .non H', rt := Q } (L2.start n_law_read vs) H := by
  obtain ⟨a, i, m, s, rfl, hr, ok, q⟩ := h
  obtain ⟨z, hs, hz⟩ := row_inv hr
  cases i with
  | const x y => exact read_core hs rfl (by decide +kernel) (by decide +kernel) (Or.inr (Or.inr (Or.inr ⟨by decide +kernel, by decide +kernel, by decide +kernel, rfl⟩))) q
  | two wd x y =>
    obtain ⟨e, _⟩ := ok
    rcases e with rfl | rfl | rfl | rfl
    · exact read_core hs rfl (by decide +kernel) (by decide +kernel) (Or.inl ⟨[2], by decide +kernel, by decide, (by simp; rfl), rfl⟩) q
    · exact read_core hs rfl (by decide +kernel) (by decide +kernel) (Or.inl ⟨[2], by decide +kernel, by decide, (by simp; rfl), rfl⟩) q
    · exact read_core hs rfl (by decide +kernel) (by decide +kernel) (Or.inr (Or.inl ⟨[2], by decide +kernel, by decide +kernel, by decide, (by simp; rfl), rfl⟩)) q
    · exact read_core hs rfl (by decide +kernel) (by decide +kernel) (Or.inr (Or.inl ⟨[2], by decide +kernel, by decide +kernel, by decide, (by simp; rfl), rfl⟩)) q
  | op n x y z => exact read_core hs rfl (by decide +kernel) (by decide +kernel) (Or.inl ⟨[3, 4], by decide +kernel, by decide, (by simp; exact ⟨rfl, rfl⟩), rfl⟩) q
  | jump x => exact read_core hs rfl (by decide +kernel) (by decide +kernel) (Or.inr (Or.inr (Or.inr ⟨by decide +kernel, by decide +kernel, by decide +kernel, rfl⟩))) q
  | branch x y => exact read_core hs rfl (by decide +kernel) (by decide +kernel) (Or.inl ⟨[1], by decide +kernel, by decide, (by simp; rfl), rfl⟩) q
  | nam wd x y =>
    obtain ⟨e, _⟩ := ok
    rcases e with rfl | rfl | rfl
    · exact read_core hs rfl (by decide +kernel) (by decide +kernel) (Or.inr (Or.inr (Or.inr ⟨by decide +kernel, by decide +kernel, by decide +kernel, rfl⟩))) q
    · exact read_core hs rfl (by decide +kernel) (by decide +kernel) (Or.inr (Or.inr (Or.inr ⟨by decide +kernel, by decide +kernel, by decide +kernel, rfl⟩))) q
    · exact read_core hs rfl (by decide +kernel) (by decide +kernel) (Or.inr (Or.inl ⟨[1], by decide +kernel, by decide +kernel, by decide, (by simp; rfl), rfl⟩)) q
  | setg x y => exact read_core hs rfl (by decide +kernel) (by decide +kernel) (Or.inl ⟨[2], by decide +kernel, by decide, (by simp; rfl), rfl⟩) q
  | get x y z => exact read_core hs rfl (by decide +kernel) (by decide +kernel) (Or.inl ⟨[2], by decide +kernel, by decide, (by simp; rfl), rfl⟩) q
  | put x y z => exact read_core hs rfl (by decide +kernel) (by decide +kernel) (Or.inl ⟨[1, 3], by decide +kernel, by decide, (by simp; exact ⟨rfl, rfl⟩), rfl⟩) q
  | three wd x y z =>
    obtain ⟨e, _⟩ := ok
    rcases e with rfl | rfl
    · exact read_core hs rfl (by decide +kernel) (by decide +kernel) (Or.inr (Or.inl ⟨[2, 3], by decide +kernel, by decide +kernel, by decide, (by simp; exact ⟨rfl, rfl⟩), rfl⟩)) q
    · exact read_core hs rfl (by decide +kernel) (by decide +kernel) (Or.inr (Or.inl ⟨[1, 2, 3], by decide +kernel, by decide +kernel, by decide, (by simp; exact ⟨rfl, rfl, rfl⟩), rfl⟩)) q
  | call x y g =>
    obtain ⟨t, rfl, ht⟩ := hz g rfl
    exact read_given hs rfl (by decide +kernel) rfl ht q
  | callv x y g =>
    obtain ⟨t, rfl, ht⟩ := hz g rfl
    exact read_given1 hs rfl (by decide +kernel) (by decide +kernel) rfl rfl ht ok.2.2.2 q
  | meth x y n g =>
    obtain ⟨t, rfl, ht⟩ := hz g rfl
    exact read_given1 hs rfl (by decide +kernel) (by decide +kernel) rfl rfl ht ok.2.2.2.2 q
  | spawn n g =>
    obtain ⟨t, rfl, ht⟩ := hz g rfl
    exact read_given hs rfl (by decide +kernel) rfl ht q
  | pause => exact read_core hs rfl (by decide +kernel) (by decide +kernel) (Or.inr (Or.inr (Or.inr ⟨by decide +kernel, by decide +kernel, by decide +kernel, rfl⟩))) q
  | one wd x =>
    obtain ⟨e, _⟩ := ok
    rcases e with rfl | rfl | rfl | rfl
    · exact read_core hs rfl (by decide +kernel) (by decide +kernel) (Or.inr (Or.inl ⟨[1], by decide +kernel, by decide +kernel, by decide, (by simp; rfl), rfl⟩)) q
    · exact read_core hs rfl (by decide +kernel) (by decide +kernel) (Or.inr (Or.inr (Or.inl ⟨by decide +kernel, by decide +kernel, by decide +kernel, rfl, rfl⟩))) q
    · exact read_core hs rfl (by decide +kernel) (by decide +kernel) (Or.inr (Or.inr (Or.inl ⟨by decide +kernel, by decide +kernel, by decide +kernel, rfl, rfl⟩))) q
    · exact read_core hs rfl (by decide +kernel) (by decide +kernel) (Or.inr (Or.inr (Or.inl ⟨by decide +kernel, by decide +kernel, by decide +kernel, rfl, rfl⟩))) q
/-- law_written, by its word -/
theorem written_core {a : Addr} {H : Hp} {Q : VK} {xs : List V} {wd : Str} {o : Option Int} (hs : SqT K H a xs) (h0 : atI xs 0 = some (.str wd))
    (c : (wd = "op" ∧ ∃ x, atI xs 2 = some (.int x) ∧ o = some x) ∨ (¬ wd = "op" ∧ wd ∈ (["const", "move", "not", "getg", "new", "get", "array", "at", "len", "call", "callv", "method"] : List Str) ∧ ∃ x, atI xs 1 = some (.int x) ∧ o = some x) ∨
      (¬ wd = "op" ∧ ¬ wd ∈ (["const", "move", "not", "getg", "new", "get", "array", "at", "len", "call", "callv", "method"] : List Str) ∧ o = none))
    (q : ∀ H', Keep [] H H' → Q (optV o) H') : t_law_written K w A { nx := fun _ H' => Q .non H', rt := Q } (L2.start n_law_written [.ref a]) H := by
  unfold t_law_written
  show tSeq _ _ _ [some (V.ref a), none] H
  walk_at "go"
  refine go_ixT hs h0 ?_
  walk_at "go"
  rcases c with ⟨e, x, hx, rfl⟩ | ⟨e, m, x, hx, rfl⟩ | ⟨e, m, rfl⟩
  · refine go_ite_t e ?_
    walk_at "go"
    exact go_ixT hs hx (q _ Keep.refl)
  · refine go_ite_f e ?_
    walk_at "go"
    rename_i l nl
    refine go_ixT (sqT_upd hs nl) h0 ?_
    walk_at "ex"
    refine go_inS (ws := ["const", "move", "not", "getg", "new", "get", "array", "at", "len", "call", "callv", "method"]) (sqL upd_same) ?_
    walk_at "ex"
    refine go_ite_t m ?_
    walk_at "go"
    exact go_ixT (sqT_upd hs nl) hx (q _ (Keep.new nl))
  · refine go_ite_f e ?_
    walk_at "go"
    rename_i l nl
    refine go_ixT (sqT_upd hs nl) h0 ?_
    walk_at "ex"
    refine go_inS (ws := ["const", "move", "not", "getg", "new", "get", "array", "at", "len", "call", "callv", "method"]) (sqL upd_same) ?_
    walk_at "ex"
    refine go_ite_f m ?_
    walk_at "go"
    exact q _ (Keep.new nl)
theorem rd_law_written {vs H Q E} (T : Txt K w mg A) (h : sp_law_written K vs H Q E) : t_law_written K w A { nx := fun _ H' => Q .non H', rt := Q } (L2.start n_law_written vs) H := by
  obtain ⟨a, i, m, s, rfl, hr, ok, q⟩ := h
  obtain ⟨z, hs, hz⟩ := row_inv hr
  cases i with
  | const x y => exact written_core hs rfl (Or.inr (Or.inl ⟨by decide +kernel, by decide +kernel, _, rfl, rfl⟩)) q
  | two wd x y =>
    obtain ⟨e, _⟩ := ok
    rcases e with rfl | rfl | rfl | rfl <;> exact written_core hs rfl (Or.inr (Or.inl ⟨by decide +kernel, by decide +kernel, _, rfl, rfl⟩)) q
  | op n x y z => exact written_core hs rfl (Or.inl ⟨rfl, _, rfl, rfl⟩) q
  | jump x => exact written_core hs rfl (Or.inr (Or.inr ⟨by decide +kernel, by decide +kernel, rfl⟩)) q
  | branch x y => exact written_core hs rfl (Or.inr (Or.inr ⟨by decide +kernel, by decide +kernel, rfl⟩)) q
  | nam wd x y =>
    obtain ⟨e, _⟩ := ok
    rcases e with rfl | rfl | rfl
    · exact written_core hs rfl (Or.inr (Or.inl ⟨by decide +kernel, by decide +kernel, _, rfl, rfl⟩)) q
    · exact written_core hs rfl (Or.inr (Or.inl ⟨by decide +kernel, by decide +kernel, _, rfl, rfl⟩)) q
    · exact written_core hs rfl (Or.inr (Or.inr ⟨by decide +kernel, by decide +kernel, rfl⟩)) q
  | setg x y => exact written_core hs rfl (Or.inr (Or.inr ⟨by decide +kernel, by decide +kernel, rfl⟩)) q
  | get x y z => exact written_core hs rfl (Or.inr (Or.inl ⟨by decide +kernel, by decide +kernel, _, rfl, rfl⟩)) q
  | put x y z => exact written_core hs rfl (Or.inr (Or.inr ⟨by decide +kernel, by decide +kernel, rfl⟩)) q
  | three wd x y z =>
    obtain ⟨e, _⟩ := ok
    rcases e with rfl | rfl
    · exact written_core hs rfl (Or.inr (Or.inl ⟨by decide +kernel, by decide +kernel, _, rfl, rfl⟩)) q
    · exact written_core hs rfl (Or.inr (Or.inr ⟨by decide +kernel, by decide +kernel, rfl⟩)) q
  | call x y g => exact written_core hs rfl (Or.inr (Or.inl ⟨by decide +kernel, by decide +kernel, _, rfl, rfl⟩)) q
  | callv x y g => exact written_core hs rfl (Or.inr (Or.inl ⟨by decide +kernel, by decide +kernel, _, rfl, rfl⟩)) q
  | meth x y n g => exact written_core hs rfl (Or.inr (Or.inl ⟨by decide +kernel, by decide +kernel, _, rfl, rfl⟩)) q
  | spawn n g => exact written_core hs rfl (Or.inr (Or.inr ⟨by decide +kernel, by decide +kernel, rfl⟩)) q
  | pause => exact written_core hs rfl (Or.inr (Or.inr ⟨by decide +kernel, by decide +kernel, rfl⟩)) q
  | one wd x =>
    obtain ⟨e, _⟩ := ok
    rcases e with rfl | rfl | rfl | rfl <;> exact written_core hs rfl (Or.inr (Or.inr ⟨by decide +kernel, by decide +kernel, rfl⟩)) q
end LW
end
section
namespace LW
open CM
open PySem.PyData (strOk)
variable {K : PySem.W.Frag} {w : World} {mg : Str → Option Value} {A : Adr}
theorem rowsAt_get {H : Hp} {l : Addr} {rows : List Ins} {j : Nat} {i : Ins} (h : RowsAt K H l rows) (e : rows[j]? = some i) : ∃ (as : List Addr) (a : Addr), H l = some (.lst (as.map V.ref)) ∧ atI (as.map V.ref) (j : Int) = some (.ref a) ∧ RowAt K H a i := by
  obtain ⟨as, h1, h2⟩ := h
  have hl := Paired.length h2
  have hj : j < rows.length := (List.getElem?_eq_some_iff.mp e).1
  have ha : as[j]? = some as[j] := List.getElem?_eq_getElem (by omega)
  obtain ⟨i2, e2, hr⟩ := Rf.Paired.get h2 ha
  rw [e] at e2
  cases e2
  exact ⟨as, as[j], h1, atI_nat (by rw [List.getElem?_map, ha]; rfl), hr⟩
theorem two_sorted {ns : List Int} {x y : Int} (h : ns.Pairwise (· < ·)) (m : ∀ k, k ∈ ns ↔ k = x ∨ k = y) : ns = if y = x then [x] else if y < x then [y, x] else [x, y] := by
  match ns, h, m with
  | [], _, m => exact absurd ((m x).2 (Or.inl rfl)) (by simp)
  | [a], _, m =>
    have h1 := (m x).2 (Or.inl rfl)
    have h2 := (m y).2 (Or.inr rfl)
    simp only [List.mem_singleton] at h1 h2
    subst h1; subst h2; simp
  | [a, b], h, m =>
    have hab : a < b := by simpa using h
    have h1 := (m x).2 (Or.inl rfl)
    have h2 := (m y).2 (Or.inr rfl)
    have h3 := (m a).1 (by simp)
    have h4 := (m b).1 (by simp)
    rcases h3 with e | e <;> rcases h4 with e' | e'
    · omega
    · subst e e'
      rw [if_neg (by omega), if_neg (by omega)]
    · subst e e'
      rw [if_neg (by omega), if_pos hab]
    · omega
  | a :: b :: c :: r, h, m =>
    exfalso
    rw [List.pairwise_cons, List.pairwise_cons] at h
    have h1 := h.1 b (by simp)
    have h2 := h.2.1 c (by simp)
    have h3 := (m a).1 (by simp)
    have h4 := (m b).1 (by simp)
    have h5 := (m c).1 (by simp)
    omega
theorem later_core {l a : Addr} {H : Hp} {Q : VK} {as : List Addr} {xs : List V} {wd : Str} {j : Nat} {out : List Int} (hl : H l = some (.lst (as.map V.ref))) (ha : atI (as.map V.ref) (j : Int) = some (.ref a)) (hs : SqT K H a xs) (h0 : atI xs 0 = some (.str wd))
    (c : (wd ∈ (["return", "fail"] : List Str) ∧ out = []) ∨ (¬ wd ∈ (["return", "fail"] : List Str) ∧ wd = "jump" ∧ ∃ t, atI xs 1 = some (.int t) ∧ out = [t]) ∨
      (¬ wd ∈ (["return", "fail"] : List Str) ∧ ¬ wd = "jump" ∧ wd = "branch" ∧ ∃ t : Int, atI xs 2 = some (.int t) ∧ out = if t = (j : Int) + 1 then [(j : Int) + 1] else if t < (j : Int) + 1 then [t, (j : Int) + 1] else [(j : Int) + 1, t]) ∨
      (¬ wd ∈ (["return", "fail"] : List Str) ∧ ¬ wd = "jump" ∧ ¬ wd = "branch" ∧ out = [(j : Int) + 1]))
    (q : ∀ (H' : Hp) (l : Addr), Keep [] H H' → H l = none → H' l = some (.lst (out.map V.int)) → Q (.ref l) H') :
    t_law_later K w A { nx := fun _ H' => Q .non H', rt := Q } (L2.start n_law_later [.ref l, .int j]) H := by
  unfold t_law_later
  show tSeq _ _ _ [some (V.ref l), some (V.int j), none] H
  walk_at "go"
  refine go_ixL (sqL hl) ha ?_
  walk_at "go"
  refine go_ixT hs h0 ?_
  walk_at "go"
  rename_i l1 n1
  refine go_inS (ws := ["return", "fail"]) (sqL upd_same) ?_
  walk_at "ex"
  have hs1 := sqT_upd (o := .lst [.str "return", .str "fail"]) hs n1
  have hl1 : SqL K (upd H l1 (.lst [.str "return", .str "fail"])) l (as.map V.ref) := sqL_upd (sqL hl) n1
  rcases c with ⟨m, rfl⟩ | ⟨m, e, t, ht, rfl⟩ | ⟨m, e1, e2, t, ht, rfl⟩ | ⟨m, e1, e2, rfl⟩
  · refine go_ite_t m ?_
    walk_at "go"
    rename_i l2 n2
    exact q _ l2 (by walk_at "keep") (by walk_at "free") upd_same
  · refine go_ite_f m ?_
    walk_at "go"
    refine go_ite_t e ?_
    walk_at "go"
    refine go_ixL hl1 ha ?_
    walk_at "go"
    refine go_ixT hs1 ht ?_
    walk_at "go"
    rename_i l2 n2
    exact q _ l2 (by walk_at "keep") (by walk_at "free") upd_same
  · refine go_ite_f m ?_
    walk_at "go"
    refine go_ite_f e1 ?_
    walk_at "go"
    refine go_ite_t e2 ?_
    walk_at "go"
    refine go_ixL hl1 ha ?_
    walk_at "go"
    refine go_ixT hs1 ht ?_
    walk_at "go"
    refine go_iteN (fun h1 => ?_) (fun h1 => ?_)
    · walk_at "go"
      refine go_ixL hl1 ha ?_
      walk_at "go"
      refine go_ixT hs1 ht ?_
      walk_at "go"
      rename_i l2 n2
      refine ⟨l2, [(j : Int) + 1, t], rfl, sqL upd_same, fun ns p hp hpw np => ?_⟩
      have nd : ns.Nodup := hp.nodup_iff.mpr (by simp; exact fun z => h1 z.symm)
      have ev := two_sorted (x := (j : Int) + 1) (y := t) (lt_of_le_nodup ns hpw nd) (fun k => by rw [hp.mem_iff]; simp)
      rw [ev]
      exact q _ p (by walk_at "keep") (by walk_at "free") upd_same
    · walk_at "go"
      rename_i l2 n2
      rw [if_pos h1] at q
      exact q _ l2 (by walk_at "keep") (by walk_at "free") upd_same
  · refine go_ite_f m ?_
    walk_at "go"
    refine go_ite_f e1 ?_
    walk_at "go"
    refine go_ite_f e2 ?_
    walk_at "go"
    rename_i l2 n2
    exact q _ l2 (by walk_at "keep") (by walk_at "free") upd_same
theorem rd_law_later {vs H Q E} (T : Txt K w mg A) (h : sp_law_later K vs H Q E) : t_law_later K w A { nx := fun _ H' => Q .non H', rt := Q } (L2.start n_law_later vs) H := by
  obtain ⟨l, rows, j, i, rfl, hR, hi, ⟨m, s, ok⟩, q⟩ := h
  obtain ⟨as, a, hl, ha, hr⟩ := rowsAt_get hR hi
  obtain ⟨z, hs, hz⟩ := row_inv hr
  cases i with
  | const x y => exact later_core hl ha hs rfl (Or.inr (Or.inr (Or.inr ⟨by decide +kernel, by decide +kernel, by decide +kernel, rfl⟩))) q
  | two wd x y =>
    obtain ⟨e, _⟩ := ok
    rcases e with rfl | rfl | rfl | rfl <;> exact later_core hl ha hs rfl (Or.inr (Or.inr (Or.inr ⟨by decide +kernel, by decide +kernel, by decide +kernel, rfl⟩))) q
  | op n x y z => exact later_core hl ha hs rfl (Or.inr (Or.inr (Or.inr ⟨by decide +kernel, by decide +kernel, by decide +kernel, rfl⟩))) q
  | jump x => exact later_core hl ha hs rfl (Or.inr (Or.inl ⟨by decide +kernel, by decide +kernel, _, rfl, rfl⟩)) q
  | branch x y => exact later_core hl ha hs rfl (Or.inr (Or.inr (Or.inl ⟨by decide +kernel, by decide +kernel, by decide +kernel, _, rfl, rfl⟩))) q
  | nam wd x y =>
    obtain ⟨e, _⟩ := ok
    rcases e with rfl | rfl | rfl <;> exact later_core hl ha hs rfl (Or.inr (Or.inr (Or.inr ⟨by decide +kernel, by decide +kernel, by decide +kernel, rfl⟩))) q
  | setg x y => exact later_core hl ha hs rfl (Or.inr (Or.inr (Or.inr ⟨by decide +kernel, by decide +kernel, by decide +kernel, rfl⟩))) q
  | get x y z => exact later_core hl ha hs rfl (Or.inr (Or.inr (Or.inr ⟨by decide +kernel, by decide +kernel, by decide +kernel, rfl⟩))) q
  | put x y z => exact later_core hl ha hs rfl (Or.inr (Or.inr (Or.inr ⟨by decide +kernel, by decide +kernel, by decide +kernel, rfl⟩))) q
  | three wd x y z =>
    obtain ⟨e, _⟩ := ok
    rcases e with rfl | rfl <;> exact later_core hl ha hs rfl (Or.inr (Or.inr (Or.inr ⟨by decide +kernel, by decide +kernel, by decide +kernel, rfl⟩))) q
  | call x y g => exact later_core hl ha hs rfl (Or.inr (Or.inr (Or.inr ⟨by decide +kernel, by decide +kernel, by decide +kernel, rfl⟩))) q
  | callv x y g => exact later_core hl ha hs rfl (Or.inr (Or.inr (Or.inr ⟨by decide +kernel, by decide +kernel, by decide +kernel, rfl⟩))) q
  | meth x y n g => exact later_core hl ha hs rfl (Or.inr (Or.inr (Or.inr ⟨by decide +kernel, by decide +kernel, by decide +kernel, rfl⟩))) q
  | spawn n g => exact later_core hl ha hs rfl (Or.inr (Or.inr (Or.inr ⟨by decide +kernel, by decide +kernel, by decide +kernel, rfl⟩))) q
  | pause => exact later_core hl ha hs rfl (Or.inr (Or.inr (Or.inr ⟨by decide +kernel, by decide +kernel, by decide +kernel, rfl⟩))) q
  | one wd x =>
    obtain ⟨e, _⟩ := ok
    rcases e with rfl | rfl | rfl | rfl
    · exact later_core hl ha hs rfl (Or.inl ⟨by decide +kernel, rfl⟩) q
    · exact later_core hl ha hs rfl (Or.inr (Or.inr (Or.inr ⟨by decide +kernel, by decide +kernel, by decide +kernel, rfl⟩))) q
    · exact later_core hl ha hs rfl (Or.inl ⟨by decide +kernel, rfl⟩) q
    · exact later_core hl ha hs rfl (Or.inr (Or.inr (Or.inr ⟨by decide +kernel, by decide +kernel, by decide +kernel, rfl⟩))) q
theorem following_core {p lr lh a : Addr} {kl : V} {D : Drw} {H : Hp} {Q : VK} {as : List Addr} {xs : List V} {wd : Str} {j : Nat} {out : List Int} (T : Txt K w mg A) (C : CodeAt K H p lr lh kl D) (hl : H lr = some (.lst (as.map V.ref))) (ha : atI (as.map V.ref) (j : Int) = some (.ref a)) (hs : SqT K H a xs) (h0 : atI xs 0 = some (.str wd))
    (c : (wd ∈ (["return", "fail"] : List Str) ∧ out = []) ∨ (¬ wd ∈ (["return", "fail"] : List Str) ∧ wd = "jump" ∧ ∃ t, atI xs 1 = some (.int t) ∧ out = [t]) ∨
      (¬ wd ∈ (["return", "fail"] : List Str) ∧ ¬ wd = "jump" ∧ wd = "branch" ∧ ∃ t : Int, atI xs 2 = some (.int t) ∧ out = if t = (j : Int) + 1 then [(j : Int) + 1] else if t < (j : Int) + 1 then [t, (j : Int) + 1] else [(j : Int) + 1, t]) ∨
      (¬ wd ∈ (["return", "fail"] : List Str) ∧ ¬ wd = "jump" ∧ ¬ wd = "branch" ∧ out = [(j : Int) + 1]))
    (q : ∀ (H' : Hp) (l : Addr), Keep [] H H' → H l = none → H' l = some (.lst (out.map V.int)) → Q (.ref l) H') :
    t_following K w A { nx := fun _ H' => Q .non H', rt := Q } (L2.start n_following [.ref p, .int j]) H := by
  unfold t_following
  show tSeq _ _ _ [some (V.ref p), some (V.int j), none] H
  walk_at "go"
  obtain ⟨Cc, dx, cc, nc, hC⟩ := C.at_
  refine ⟨p, Cc, dx, _, _, rfl, hC, cc, nc.2.2.2.1, rfl, ?_⟩
  walk_at "ex"
  refine go_ixL (sqL hl) ha ?_
  walk_at "go"
  refine go_ixT hs h0 ?_
  walk_at "go"
  rename_i l1 n1
  refine go_inST (ws := ["return", "fail"]) (sqT upd_same) ?_
  walk_at "ex"
  have hs1 := sqT_upd (o := .tup [.str "return", .str "fail"]) hs n1
  rcases c with ⟨m, rfl⟩ | ⟨m, e, t, ht, rfl⟩ | ⟨m, e1, e2, t, ht, rfl⟩ | ⟨m, e1, e2, rfl⟩
  · refine go_ite_t m ?_
    walk_at "go"
    rename_i l2 n2
    exact q _ l2 (by walk_at "keep") (by walk_at "free") upd_same
  · refine go_ite_f m ?_
    walk_at "go"
    refine go_ixT hs1 h0 ?_
    walk_at "go"
    refine go_ite_t e ?_
    walk_at "go"
    refine go_ixT hs1 ht ?_
    walk_at "go"
    rename_i l2 n2
    exact q _ l2 (by walk_at "keep") (by walk_at "free") upd_same
  · refine go_ite_f m ?_
    walk_at "go"
    refine go_ixT hs1 h0 ?_
    walk_at "go"
    refine go_ite_f e1 ?_
    walk_at "go"
    refine go_ixT hs1 h0 ?_
    walk_at "go"
    refine go_ite_t e2 ?_
    walk_at "go"
    refine go_setI2 (fun d nd => ?_)
    walk_at "ex"
    refine go_ixT (sqT_upd hs1 nd) ht ⟨upd_same, _, _, rfl, rfl, fun S n hn hS => ?_⟩
    walk_at "ex"
    refine ⟨d, S, n, rfl, upd_same, by omega, fun ns l2 hp hm _ n2 => ?_⟩
    have ev := two_sorted (x := (j : Int) + 1) (y := t) hp (fun k => (hm k).trans (hS k))
    rw [ev]
    rw [upd_upd] at n2 ⊢
    exact q _ l2 (by walk_at "keep") (by walk_at "free") upd_same
  · refine go_ite_f m ?_
    walk_at "go"
    refine go_ixT hs1 h0 ?_
    walk_at "go"
    refine go_ite_f e1 ?_
    walk_at "go"
    refine go_ixT hs1 h0 ?_
    walk_at "go"
    refine go_ite_f e2 ?_
    walk_at "go"
    rename_i l2 n2
    exact q _ l2 (by walk_at "keep") (by walk_at "free") upd_same
theorem rd_following {vs H Q E} (T : Txt K w mg A) (h : sp_following K vs H Q E) : t_following K w A { nx := fun _ H' => Q .non H', rt := Q } (L2.start n_following vs) H := by
  obtain ⟨p, lr, lh, kl, D, j, i, rfl, C, hi, ok, q⟩ := h
  obtain ⟨as, a, hl, ha, hr⟩ := rowsAt_get C.rows hi
  obtain ⟨z, hs, hz⟩ := row_inv hr
  cases i with
  | const x y => exact following_core T C hl ha hs rfl (Or.inr (Or.inr (Or.inr ⟨by decide +kernel, by decide +kernel, by decide +kernel, rfl⟩))) q
  | two wd x y =>
    obtain ⟨e, _⟩ := ok
    rcases e with rfl | rfl | rfl | rfl <;> exact following_core T C hl ha hs rfl (Or.inr (Or.inr (Or.inr ⟨by decide +kernel, by decide +kernel, by decide +kernel, rfl⟩))) q
  | op n x y z => exact following_core T C hl ha hs rfl (Or.inr (Or.inr (Or.inr ⟨by decide +kernel, by decide +kernel, by decide +kernel, rfl⟩))) q
  | jump x => exact following_core T C hl ha hs rfl (Or.inr (Or.inl ⟨by decide +kernel, by decide +kernel, _, rfl, rfl⟩)) q
  | branch x y => exact following_core T C hl ha hs rfl (Or.inr (Or.inr (Or.inl ⟨by decide +kernel, by decide +kernel, by decide +kernel, _, rfl, rfl⟩))) q
  | nam wd x y =>
    obtain ⟨e, _⟩ := ok
    rcases e with rfl | rfl | rfl <;> exact following_core T C hl ha hs rfl (Or.inr (Or.inr (Or.inr ⟨by decide +kernel, by decide +kernel, by decide +kernel, rfl⟩))) q
  | setg x y => exact following_core T C hl ha hs rfl (Or.inr (Or.inr (Or.inr ⟨by decide +kernel, by decide +kernel, by decide +kernel, rfl⟩))) q
  | get x y z => exact following_core T C hl ha hs rfl (Or.inr (Or.inr (Or.inr ⟨by decide +kernel, by decide +kernel, by decide +kernel, rfl⟩))) q
  | put x y z => exact following_core T C hl ha hs rfl (Or.inr (Or.inr (Or.inr ⟨by decide +kernel, by decide +kernel, by decide +kernel, rfl⟩))) q
  | three wd x y z =>
    obtain ⟨e, _⟩ := ok
    rcases e with rfl | rfl <;> exact following_core T C hl ha hs rfl (Or.inr (Or.inr (Or.inr ⟨by decide +kernel, by decide +kernel, by decide +kernel, rfl⟩))) q
  | call x y g => exact following_core T C hl ha hs rfl (Or.inr (Or.inr (Or.inr ⟨by decide +kernel, by decide +kernel, by decide +kernel, rfl⟩))) q
  | callv x y g => exact following_core T C hl ha hs rfl (Or.inr (Or.inr (Or.inr ⟨by decide +kernel, by decide +kernel, by decide +kernel, rfl⟩))) q
  | meth x y n g => exact following_core T C hl ha hs rfl (Or.inr (Or.inr (Or.inr ⟨by decide +kernel, by decide +kernel, by decide +kernel, rfl⟩))) q
  | spawn n g => exact following_core T C hl ha hs rfl (Or.inr (Or.inr (Or.inr ⟨by decide +kernel, by decide +kernel, by decide +kernel, rfl⟩))) q
  | pause => exact following_core T C hl ha hs rfl (Or.inr (Or.inr (Or.inr ⟨by decide +kernel, by decide +kernel, by decide +kernel, rfl⟩))) q
  | one wd x =>
    obtain ⟨e, _⟩ := ok
    rcases e with rfl | rfl | rfl | rfl
    · exact following_core T C hl ha hs rfl (Or.inl ⟨by decide +kernel, rfl⟩) q
    · exact following_core T C hl ha hs rfl (Or.inr (Or.inr (Or.inr ⟨by decide +kernel, by decide +kernel, by decide +kernel, rfl⟩))) q
    · exact following_core T C hl ha hs rfl (Or.inl ⟨by decide +kernel, rfl⟩) q
    · exact following_core T C hl ha hs rfl (Or.inr (Or.inr (Or.inr ⟨by decide +kernel, by decide +kernel, by decide +kernel, rfl⟩))) q
end LW
end
section
namespace LW
open CM
open PySem.PyData (strOk)
variable {K : PySem.W.Frag} {w : World} {mg : Str → Option Value} {A : Adr}
theorem go_refsP {K : PySem.W.Frag} {D : Ends} {σ : L2.St} {H : Hp} {g : TG} {tb : TS} {a : Addr} {α : Type} {F : Addr → α → Prop} {as : List Addr} {ms : List α} (hp : Paired F as ms) (hS : SqL K H a (as.map V.ref)) (Pv : List α → L2.St → Hp → Prop) (h0 : Pv [] σ H) (hl : ∀ pre σ' H', Pv pre σ' H' → SqL K H' a (as.map V.ref))
    (hs : ∀ pre m post b σ' H', ms = pre ++ m :: post → F b m → Pv pre σ' H' → g (.ref b) σ' H' fun σ2 H2 => tb { D with nx := Pv (pre ++ [m]), ct := Pv (pre ++ [m]), bk := D.nx } σ2 H2)
    (hd : ∀ σ' H', Pv ms σ' H' → D.nx σ' H') : ∃ a', V.ref a = .ref a' ∧ (∃ xs, SqL K H a' xs) ∧ ForQ (Itl K a') g tb D σ H := by
  refine go_forL hS (fun pre σ' H' => Pv (ms.take pre.length) σ' H') h0 (fun pre σ' H' p => hl _ _ _ p) (fun pre x post σ' H' e p => ?_) (fun σ' H' p => hd σ' H' ?_)
  · obtain ⟨b, m, rfl, hF, hm, hb, h1, h2, h3⟩ := refs_split hp e
    obtain ⟨hlt, e1⟩ := List.getElem?_eq_some_iff.mp h1
    have := hs (ms.take pre.length) m (ms.drop (pre.length + 1)) b σ' H' (by rw [← e1, List.getElem_cons_drop, List.take_append_drop]) hF p
    rw [h2]
    exact this
  · rw [List.length_map, Paired.length hp, List.take_length] at p
    exact p
theorem catch_step {hs : List Hd} {pre post : List Hd} {m : Hd} {pc : Int} (e : hs = pre ++ m :: post) (n : catcher pre pc = none) : (m.1 ≤ pc ∧ pc < m.2.1 → catcher hs pc = some m) ∧ (¬ (m.1 ≤ pc ∧ pc < m.2.1) → catcher (pre ++ [m]) pc = none) := by
  unfold catcher at *
  constructor
  · intro h
    rw [e, List.find?_append, n]
    simp [h.1, h.2]
  · intro h
    rw [List.find?_append, n]
    simp
    intro h1
    rcases Int.lt_or_le pc m.2.1 with h2 | h2
    · exact absurd ⟨h1, h2⟩ h
    · exact h2
theorem rd_law_catcher {vs H Q E} (T : Txt K w mg A) (h : sp_law_catcher K vs H Q E) : t_law_catcher K w A { nx := fun _ H' => Q .non H', rt := Q } (L2.start n_law_catcher vs) H := by
  obtain ⟨l, hs, pc, rfl, ⟨as, h1, h2⟩, q⟩ := h
  unfold t_law_catcher
  show tSeq _ _ _ [some (V.ref l), some (V.int pc), none] H
  walk_at "go"
  refine go_refsP h2 (sqL h1) (fun pre σ' H' => ∃ x : Option V, σ' = [some (V.ref l), some (V.int pc), x] ∧ H' = H ∧ catcher pre pc = none) ⟨none, rfl, rfl, rfl⟩ (fun pre σ' H' p => ?_) (fun pre m post b σ' H' e hb p => ?_) (fun σ' H' p => ?_)
  · obtain ⟨x, _, rfl, _⟩ := p
    exact sqL h1
  · obtain ⟨x, rfl, rfl, n⟩ := p
    obtain ⟨c1, c2⟩ := catch_step e n
    walk_at "go"
    refine go_ite (fun e1 => ?_) (fun e1 => ?_)
    · walk_at "go"
      refine go_ite (fun e2 => ?_) (fun e2 => ?_)
      · walk_at "go"
        exact q _ (by rw [c1 ⟨e1, e2⟩]; exact ⟨b, rfl, hb⟩)
      · walk_at "go"
        exact ⟨_, rfl, rfl, c2 fun z => e2 z.2⟩
    · walk_at "go"
      exact ⟨_, rfl, rfl, c2 fun z => e1 z.1⟩
  · obtain ⟨x, rfl, rfl, n⟩ := p
    walk_at "go"
    exact q _ (by rw [n]; rfl)
theorem rd_handler_at {vs H Q E} (T : Txt K w mg A) (h : sp_handler_at K vs H Q E) : t_handler_at K w A { nx := fun _ H' => Q .non H', rt := Q } (L2.start n_handler_at vs) H := by
  obtain ⟨p, lr, lh, kl, D, pc, rfl, C, q⟩ := h
  obtain ⟨as, h1, h2⟩ := C.hs
  obtain ⟨Cc, dx, cc, nc, hC⟩ := C.at_
  unfold t_handler_at
  show tSeq _ _ _ [some (V.ref p), some (V.int pc), none] H
  walk_at "go"
  refine ⟨p, Cc, dx, _, _, rfl, hC, cc, nc.2.2.2.2.1, rfl, ?_⟩
  refine go_refsP h2 (sqL h1) (fun pre σ' H' => ∃ x : Option V, σ' = [some (V.ref p), some (V.int pc), x] ∧ H' = H ∧ catcher pre pc = none) ⟨none, rfl, rfl, rfl⟩ (fun pre σ' H' p => ?_) (fun pre m post b σ' H' e hb p => ?_) (fun σ' H' p => ?_)
  · obtain ⟨x, _, rfl, _⟩ := p
    exact sqL h1
  · obtain ⟨x, rfl, rfl, n⟩ := p
    obtain ⟨c1, c2⟩ := catch_step e n
    walk_at "go"
    refine go_ite (fun e1 => ?_) (fun e1 => ?_)
    · walk_at "go"
      refine go_ite (fun e2 => ?_) (fun e2 => ?_)
      · walk_at "go"
        exact q _ (by rw [c1 ⟨e1, e2⟩]; exact ⟨b, rfl, hb⟩)
      · walk_at "go"
        exact ⟨_, rfl, rfl, c2 fun z => e2 z.2⟩
    · walk_at "go"
      exact ⟨_, rfl, rfl, c2 fun z => e1 z.1⟩
  · obtain ⟨x, rfl, rfl, n⟩ := p
    walk_at "go"
    exact q _ (by rw [n]; rfl)
theorem seq_at {H H' : Hp} {x l C dx : Addr} {xs : List V} {fs : List (Str × V)} (k : Keep [x] H H') (hx : H x = some (.ins C dx fs)) (h : H l = some (.lst xs) ∨ H l = some (.tup xs)) : SqL K H' l xs ∨ SqT K H' l xs := by
  have n : l ∉ [x] := by
    simp; intro e; subst e
    rcases h with h | h <;> · rw [hx] at h; cases h
  exact h.imp (fun e => sqL (k _ _ e n)) (fun e => sqT (k _ _ e n))
theorem rd_Code_init {vs H Q E} (T : Txt K w mg A) (h : sp_Code_init K vs H Q E) : t_Code_init K w A { nx := fun _ H' => Q .non H', rt := Q } (L2.start n_Code_init vs) H := by
  obtain ⟨x, C, dx, lr, lh, nm, pa, sz, xs, ys, rfl, hx, cc, nc, h1, h2, q⟩ := h
  obtain ⟨n1, n2, n3, n4, n5, n6⟩ := nc
  unfold t_Code_init
  show tSeq _ _ _ [some (V.ref x), some (V.str nm), some (V.int pa), some (V.int sz), some (V.ref lr), some (V.ref lh)] H
  walk_at "go"
  refine ⟨x, C, dx, _, rfl, hx, cc, n1, by decide, ?_⟩
  walk_at "go"
  refine ⟨x, C, dx, _, rfl, upd_same, cc, n2, Nat.lt_of_le_of_lt (Nat.le_of_eq (rfl : _ = 1)) (by decide), ?_⟩
  rw [upd_upd]
  walk_at "go"
  refine ⟨x, C, dx, _, rfl, upd_same, cc, n3, Nat.lt_of_le_of_lt (Nat.le_of_eq (rfl : _ = 2)) (by decide), ?_⟩
  rw [upd_upd]
  walk_at "go"
  generalize hf : putF "size" (.int sz) (putF "params" (.int pa) (putF "name" (.str nm) [])) = f3
  have k1 : Keep [x] H (upd H x (.ins C dx f3)) := Keep.put (by simp)
  have l3 : f3.length = 3 := by rw [← hf]; rfl
  refine ⟨lr, xs, rfl, seq_at k1 hx h1, fun l1 nl1 => ?_⟩
  have nx1 : x ≠ l1 := fun e => by rw [e, upd_same] at nl1; cases nl1
  have nl1' : H l1 = none := by rw [upd_ne nx1.symm] at nl1; exact nl1
  walk_at "go"
  refine ⟨x, C, dx, f3, rfl, by rw [upd_ne nx1, upd_same], cc, n4, by omega, ?_⟩
  walk_at "go"
  generalize hH2 : upd (upd (upd H x (.ins C dx f3)) l1 (.lst xs)) x (.ins C dx (putF "rows" (.ref l1) f3)) = H2
  have k2 : Keep [x] H H2 := by
    subst hH2
    exact (k1.trans (Keep.new nl1)).trans (Keep.put (by simp))
  have hx2 : H2 x = some (.ins C dx (putF "rows" (.ref l1) f3)) := by subst hH2; exact upd_same
  have hl1 : H2 l1 = some (.lst xs) := by subst hH2; rw [upd_ne nx1.symm]; exact upd_same
  clear hH2
  refine ⟨lh, ys, rfl, seq_at k2 hx h2, fun l2 nl2 => ?_⟩
  have nx2 : x ≠ l2 := fun e => by rw [← e, hx2] at nl2; cases nl2
  have n12 : l1 ≠ l2 := fun e => by rw [← e, hl1] at nl2; cases nl2
  have nl2' : H l2 = none := k2.free nl2 (by simp; exact fun e => nx2 e.symm)
  walk_at "go"
  have e4 : putF "rows" (.ref l1) f3 = f3 ++ [(("rows" : Str), V.ref l1)] := by rw [← hf]; rfl
  refine ⟨x, C, dx, _, rfl, by rw [upd_ne nx2]; exact hx2, cc, n5, by rw [e4, List.length_append, l3]; simp, ?_⟩
  walk_at "go"
  have e5 : putF "handlers" (.ref l2) (putF "rows" (.ref l1) f3) = f3 ++ [(("rows" : Str), V.ref l1), (("handlers" : Str), V.ref l2)] := by rw [← hf]; rfl
  refine ⟨x, C, dx, _, rfl, upd_same, cc, n6, by rw [e5, List.length_append, l3]; simp, ?_⟩
  have e6 : putF "known_live" .non (putF "handlers" (.ref l2) (putF "rows" (.ref l1) f3)) = flds nm pa sz l1 l2 .non := by rw [← hf]; rfl
  rw [e6, upd_upd]
  refine q _ l1 l2 ((k2.trans (Keep.new nl2)).trans (Keep.put (by simp))) nl1' nl2' n12 upd_same ?_ ?_
  · rw [upd_ne nx1.symm, upd_ne n12]; exact hl1
  · rw [upd_ne nx2.symm]; exact upd_same
end LW
end
section
namespace LW
open CM
open PySem.PyData (strOk)
variable {K : PySem.W.Frag} {w : World} {mg : Str → Option Value} {A : Adr}
theorem tyx_list {H : Hp} {a : Addr} {xs : List V} (h : SqL K H a xs) : TyX K H (.ref a) (.type "list") := by
  rcases h with (h | ⟨o, h⟩) | ⟨o, its, n, e, c, _⟩
  · exact .base (.lst h)
  · exact .base (.frz h)
  · exact .kList e c
theorem tyx_tuple {H : Hp} {a : Addr} {xs : List V} (h : SqT K H a xs) : TyX K H (.ref a) (.type "tuple") := by
  rcases h with (h | ⟨o, h⟩) | ⟨o, its, n, e, c, _⟩
  · exact .base (.tup h)
  · exact .fTuple h
  · exact .kTuple e c
theorem dpA_len {H : Hp} : ∀ {xs : List V} {ds : List PyData}, DpAll K H xs ds → xs.length = ds.length
  | _, _, .nil => rfl
  | _, _, .cons _ t => by rw [List.length_cons, List.length_cons, dpA_len t]
theorem dpA_get {H : Hp} : ∀ {xs : List V} {ds : List PyData} {i : Nat}, DpAll K H xs ds → i < ds.length → ∃ v d, atI xs (0 + (i : Int)) = some v ∧ d ∈ ds ∧ Dp K H v d ∧ ds[i]? = some d ∧ xs[i]? = some v
  | _, _, i, .nil, h => by simp at h
  | v :: xs, d :: ds, 0, .cons h _, _ => ⟨v, d, by rw [Int.zero_add]; exact atI_nat rfl, by simp, h, rfl, rfl⟩
  | v :: xs, d :: ds, i + 1, .cons _ t, h => by
    obtain ⟨v2, d2, _, m, e2, e3, e4⟩ := dpA_get (i := i) t (by simpa using h)
    exact ⟨v2, d2, by rw [Int.zero_add]; exact atI_nat (by simpa using e4), by simp [m], e2, by simpa using e3, by simpa using e4⟩
theorem dpA_two {H : Hp} {xs ys : List V} {ds : List PyData} {i : Nat} (hx : DpAll K H xs ds) (hy : DpAll K H ys ds) (hi : i < ds.length) :
    ∃ v u d, atI xs (0 + (i : Int)) = some v ∧ atI ys (0 + (i : Int)) = some u ∧ d ∈ ds ∧ Dp K H v d ∧ Dp K H u d := by
  obtain ⟨v, d, h1, h2, h3, h4, _⟩ := dpA_get hx hi
  obtain ⟨u, d', g1, g2, g3, g4, _⟩ := dpA_get hy hi
  rw [h4] at g4
  cases g4
  exact ⟨v, u, d, h1, g1, h2, h3, g3⟩
theorem zero_law_same {vs H Q E} (h : sp_law_same 0 K vs H Q E) : False := by
  obtain ⟨x, y, d, _, _, _, _, h, _⟩ := h
  omega
theorem same_seq {n : Nat} {x y : V} {xs ys : List V} {ds : List PyData} {H : Hp} {Q : VK} (T : Txt K w mg A) (hx : DpAll K H xs ds) (hy : DpAll K H ys ds) (lx : ∀ (Q : VK) (H' : Hp), Keep [] H H' → Q (.int xs.length) H' → rLenS K [x] H' Q) (ly : ∀ (Q : VK) (H' : Hp), Keep [] H H' → Q (.int ys.length) H' → rLenS K [y] H' Q)
    (ix : ∀ (Q : VK) (H' : Hp) (i : Nat) (v : V), Keep [] H H' → atI xs (0 + (i : Int)) = some v → Q v H' → rIxQ K x (.int (0 + (i : Int))) H' Q) (iy : ∀ (Q : VK) (H' : Hp) (i : Nat) (v : V), Keep [] H H' → atI ys (0 + (i : Int)) = some v → Q v H' → rIxQ K y (.int (0 + (i : Int))) H' Q)
    (hg : gdA ds = true) (hl : ds.length ≤ 1000) (hd : PyData.depthAll ds < n) (q : ∀ H', Keep [] H H' → Q (.bl true) H') :
    (tAndV (tOp rEq (tCB (rLenS K) (tCons (tVar 0) tNil)) (tCB (rLenS K) (tCons (tVar 1) tNil))) (tCB (rAll K) (tCons (tLc (iRng1 (tCons (tCB (rLenS K) (tCons (tVar 1) tNil)) tNil)) (gName 2) tYes (tCall (sp_law_same n K) [] E0 (tCons (tOp (rIxQ K) (tVar 0) (tVar 2)) (tCons (tOp (rIxQ K) (tVar 1) (tVar 2)) tNil))) [2]) tNil))) [some x, some y, none] H Q := by
  have l1 := dpA_len hx
  have l2 := dpA_len hy
  walk_at "ex"
  refine lx _ _ Keep.refl ?_
  walk_at "ex"
  refine ly _ _ Keep.refl ?_
  walk_at "ex"
  refine go_ite_t (by rw [l1, l2]) ?_
  walk_at "ex"
  refine ly _ _ Keep.refl ?_
  refine ⟨_, rfl, by omega, by omega, ?_⟩
  refine go_lcRF (fun _ => .bl true) (fun _ => true) (szL (by omega)) (fun v => rfl) (fun i hi H' R k h => go_yes (h _ Keep.refl)) (fun i hi _ H' R k h => ?_) (fun Dn H' nD k hD => ?_)
  · obtain ⟨v, u, d, h1, h2, h3, h4, h5⟩ := dpA_two hx hy (i := i) (by omega)
    walk_at "ex"
    refine ix _ _ i v k h1 ?_
    walk_at "ex"
    refine iy _ _ i u k h2 ?_
    refine ⟨v, u, d, rfl, dp_keep k d v h4, dp_keep k d u h5, gdA_all.1 hg d h3, Nat.lt_of_le_of_lt (depthAll_ge h3) hd, h⟩
  · have e : ((List.range ((ys.length : Int)).toNat).filter fun _ => true).map (fun _ => V.bl true) = (List.replicate ys.length true).map V.bl := by
      rw [List.filter_eq_self.2 (fun _ _ => rfl), List.map_const', List.length_range, List.map_replicate]; rfl
    rw [e] at hD
    refine go_all (sqL hD) ?_
    have e2 : (List.replicate ys.length true).all id = true := by
      rw [List.all_eq_true]; intro b hb; rw [List.eq_of_mem_replicate hb]; rfl
    rw [e2]
    exact q _ k
theorem rd_law_same {n vs H Q E} (T : Txt K w mg A) (h : sp_law_same (n + 1) K vs H Q E) : t_law_same n K w A { nx := fun _ H' => Q .non H', rt := Q } (L2.start n_law_same vs) H := by
  obtain ⟨x, y, d, rfl, hx, hy, hg, hd, q⟩ := h
  unfold t_law_same
  show tSeq _ _ _ [some x, some y, none] H
  cases d with
  | none => cases hx; cases hy; walk_at "go"; exact q _ Keep.refl
  | bool b => simp [gd] at hg
  | dict b => simp [gd] at hg
  | int i =>
    cases hx; cases hy; walk_at "go"
    rw [decide_eq_true rfl]; exact q _ Keep.refl
  | str i =>
    cases hx; cases hy; walk_at "go"
    rw [decide_eq_true rfl]; exact q _ Keep.refl
  | list ds =>
    cases hx with
    | lst sx ax =>
      cases hy with
      | lst sy ay =>
        simp only [gd, Bool.and_eq_true, decide_eq_true_eq] at hg
        simp only [PyData.depth] at hd
        walk_at "go"
        refine go_isi (tyx_list sy) kit_list_list ?_
        walk_at "go"
        refine go_isi (tyx_list sy) kit_list_list ?_
        walk_at "go"
        refine go_isi (tyx_list sx) kit_list_list ?_
        walk_at "go"
        refine go_isi (tyx_list sy) kit_list_tuple ?_
        walk_at "ex"
        walk_at "stm"
        walk_at "stm"
        refine same_seq T ax ay (fun Q H' k h => go_lenL (k.seq (by simp) sx) h) (fun Q H' k h => go_lenL (k.seq (by simp) sy) h) (fun Q H' i v k e h => Or.inl (go_ixL (k.seq (by simp) sx) e h)) (fun Q H' i v k e h => Or.inl (go_ixL (k.seq (by simp) sy) e h)) hg.2 hg.1 (by omega) q
  | tuple ds =>
    cases hx with
    | tup sx ax =>
      cases hy with
      | tup sy ay =>
        simp only [gd, Bool.and_eq_true, decide_eq_true_eq] at hg
        simp only [PyData.depth] at hd
        walk_at "go"
        refine go_isi (tyx_tuple sy) kit_tuple_list ?_
        walk_at "go"
        refine go_isi (tyx_tuple sy) kit_tuple_tuple ?_
        walk_at "go"
        refine go_isi (tyx_tuple sy) kit_tuple_list ?_
        walk_at "go"
        refine go_isi (tyx_tuple sy) kit_tuple_tuple ?_
        walk_at "go"
        refine go_isi (tyx_tuple sx) kit_tuple_tuple ?_
        walk_at "ex"
        walk_at "stm"
        walk_at "stm"
        refine same_seq T ax ay (fun Q H' k h => go_lenT (k.tup (by simp) sx) h) (fun Q H' k h => go_lenT (k.tup (by simp) sy) h) (fun Q H' i v k e h => Or.inr (go_ixT (k.tup (by simp) sx) e h)) (fun Q H' i v k e h => Or.inr (go_ixT (k.tup (by simp) sy) e h)) hg.2 hg.1 (by omega) q
end LW
end
section
namespace LW
open CM
open PySem.PyData (strOk)
variable {K : PySem.W.Frag} {w : World} {mg : Str → Option Value} {A : Adr}
/-- for x in a list of images -/
theorem go_forM {D : Ends} {σ : L2.St} {H : Hp} {g : TG} {tb : TS} {a : Addr} {α : Type} {ms : List α} (f : α → V) (hS : SqL K H a (ms.map f)) (Pv : List α → L2.St → Hp → Prop) (h0 : Pv [] σ H) (hl : ∀ pre σ' H', Pv pre σ' H' → SqL K H' a (ms.map f))
    (hs : ∀ pre m post σ' H', ms = pre ++ m :: post → Pv pre σ' H' → g (f m) σ' H' fun σ2 H2 => tb { D with nx := Pv (pre ++ [m]), ct := Pv (pre ++ [m]), bk := D.nx } σ2 H2)
    (hd : ∀ σ' H', Pv ms σ' H' → D.nx σ' H') : ∃ a', V.ref a = .ref a' ∧ (∃ xs, SqL K H a' xs) ∧ ForQ (Itl K a') g tb D σ H := by
  refine go_forL hS (fun pre σ' H' => Pv (ms.take pre.length) σ' H') h0 (fun pre σ' H' p => hl _ _ _ p) (fun pre x post σ' H' e p => ?_) (fun σ' H' p => hd σ' H' ?_)
  · obtain ⟨l1, l2, e1, e2, e3⟩ := List.map_eq_append_iff.1 e
    cases l2 with
    | nil => simp at e3
    | cons m post' =>
      rw [List.map_cons] at e3
      obtain ⟨e4, _⟩ := List.cons.inj e3
      have hl1 : pre.length = l1.length := by rw [← e2, List.length_map]
      have t1 : ms.take pre.length = l1 := by rw [e1, hl1, List.take_left]
      have t2 : ms.take (pre ++ [x]).length = l1 ++ [m] := by
        rw [List.length_append, List.length_singleton, hl1, e1]
        rw [show l1 ++ m :: post' = (l1 ++ [m]) ++ post' by simp]
        rw [show l1.length + 1 = (l1 ++ [m]).length by simp, List.take_left]
      rw [t2, ← e4]
      rw [t1] at p
      exact hs l1 m post' σ' H' e1 p
  · rw [List.length_map, List.take_length] at p
    exact p
theorem CodeAt.keep {H H' : Hp} {p lr lh : Addr} {kl : V} {D : Drw} (k : Keep [] H H') (C : CodeAt K H p lr lh kl D) : CodeAt K H' p lr lh kl D := by
  obtain ⟨Cc, dx, c, n, h⟩ := C.at_
  exact ⟨⟨Cc, dx, c, n, k _ _ h (by simp)⟩, RowsAt.keep k noT_nil (by simp) C.rows, HandsAt.keep k noT_nil (by simp) C.hs⟩
def rowsD (rows : List Ins) : PyData := .list (rows.map fun i => .tuple i.data)
def handsD (hs : List Hd) : PyData := .list (hs.map hdD)
theorem dpA_pairs {H : Hp} {α : Type} {F : Addr → α → Prop} {f : α → PyData} (hf : ∀ a m, F a m → Dp K H (.ref a) (f m)) : ∀ {as : List Addr} {ms : List α}, Paired F as ms → DpAll K H (as.map V.ref) (ms.map f)
  | _, _, .nil => .nil
  | _, _, .cons h t => .cons (hf _ _ h) (dpA_pairs hf t)
theorem RowsAt.dp {H : Hp} {l : Addr} {rows : List Ins} (h : RowsAt K H l rows) : Dp K H (.ref l) (rowsD rows) := by
  obtain ⟨as, h1, h2⟩ := h
  exact .lst (sqL h1) (dpA_pairs (fun a m e => e.1) h2)
theorem dp_hand {H : Hp} {a : Addr} {h : Hd} (e : HandAt K H a h) : Dp K H (.ref a) (hdD h) := .tup e (.cons (.int _) (.cons (.int _) (.cons (.int _) (.cons (.int _) .nil))))
theorem HandsAt.dp {H : Hp} {l : Addr} {hs : List Hd} (h : HandsAt K H l hs) : Dp K H (.ref l) (handsD hs) := by
  obtain ⟨as, h1, h2⟩ := h
  exact .lst (sqL h1) (dpA_pairs (fun a m e => dp_hand e) h2)
theorem rows_gd {D : Drw} (ok : D.Ok) : gd (rowsD D.rows) = true ∧ (rowsD D.rows).depth ≤ 3 := by
  constructor
  · unfold rowsD
    simp only [gd, Bool.and_eq_true, decide_eq_true_eq]
    refine ⟨by rw [List.length_map]; have := ok.r2; omega, gdA_all.2 fun d hd => ?_⟩
    obtain ⟨i, hi, rfl⟩ := List.mem_map.1 hd
    exact Ins.gd (ok.rows i hi)
  · unfold rowsD
    simp only [PyData.depth]
    have : PyData.depthAll (D.rows.map fun i => PyData.tuple i.data) ≤ 2 := depthAll_le fun d hd => by
      obtain ⟨i, hi, rfl⟩ := List.mem_map.1 hd
      exact Ins.depth (ok.rows i hi)
    omega
theorem hands_gd {D : Drw} (ok : D.Ok) : gd (handsD D.hs) = true ∧ (handsD D.hs).depth ≤ 3 := by
  constructor
  · unfold handsD
    simp only [gd, Bool.and_eq_true, decide_eq_true_eq]
    refine ⟨by rw [List.length_map]; have := ok.hl; omega, gdA_all.2 fun d hd => ?_⟩
    obtain ⟨i, hi, rfl⟩ := List.mem_map.1 hd
    rfl
  · unfold handsD
    simp only [PyData.depth]
    have : PyData.depthAll (D.hs.map hdD) ≤ 2 := depthAll_le fun d hd => by
      obtain ⟨i, hi, rfl⟩ := List.mem_map.1 hd
      simp [hdD, PyData.depth, PyData.depthAll]
    omega
theorem go_eqD {x y : V} {H : Hp} {Q : VK} {d : PyData} (hx : Dp K H x d) (hy : Dp K H y d) (g : gd d = true) (n : d.depth ≤ 64) (q : Q (.bl true) H) : rEqD K x y H Q :=
  ⟨d, d, hx, hy, gd_shaped g n, gd_shaped g n, by rw [gd_eqv d g]; exact q⟩
theorem NoT.ins {H : Hp} {p C dx : Addr} {fs : List (Str × V)} (h : H p = some (.ins C dx fs)) : NoT H [p] := noT_ins h noT_nil
theorem paired_mem {α β : Type} {F : α → β → Prop} : ∀ {as : List α} {bs : List β} {a : α}, Paired F as bs → a ∈ as → ∃ b ∈ bs, F a b
  | _, _, _, .nil, h => by simp at h
  | _, _, _, .cons h t, m => by
    rcases List.mem_cons.1 m with e | m
    · subst e; exact ⟨_, by simp, h⟩
    · obtain ⟨b, hb, e⟩ := paired_mem t m
      exact ⟨b, by simp [hb], e⟩
/-- what is new may change -/
theorem keep_new {H H1 H2 : Hp} {S : List Addr} (a : Keep [] H H1) (b : Keep S H1 H2) (n : ∀ x ∈ S, H x = none) : Keep [] H H2 := fun x o e m => by
  refine b _ _ (a _ _ e m) fun i => ?_
  rw [n x i] at e; cases e
theorem DrawnAt.keep0 {H H' : Hp} {q lr lh : Addr} {D : Drw} (k : Keep [] H H') (h : DrawnAt K H q lr lh D) : DrawnAt K H' q lr lh D :=
  ⟨k _ _ h.at_ (by simp), RowsAt.keep k noT_nil (by simp) h.rows, HandsAt.keep k noT_nil (by simp) h.hs⟩
theorem keep_fr {H H1 H2 : Hp} {l : Addr} (a : Keep [] H H1) (b : Keep [l] H1 H2) (n : H l = none) : Keep [] H H2 := fun x o e m => by
  refine b _ _ (a _ _ e m) ?_
  simp
  intro z
  subst z
  rw [n] at e; cases e
end LW
end
section
namespace LW
open CM
open PySem.PyData (strOk)
variable {K : PySem.W.Frag} {w : World} {mg : Str → Option Value} {A : Adr}
theorem Paired.drop {α β : Type} {F : α → β → Prop} : ∀ {as : List α} {ms : List β} (i : Nat), Paired F as ms → Paired F (as.drop i) (ms.drop i)
  | _, _, 0, h => h
  | _, _, i + 1, .nil => .nil
  | _, _, i + 1, .cons _ t => Paired.drop i t
theorem rd_uses {vs H Q E} (T : Txt K w mg A) (h : sp_uses K vs H Q E) : t_uses K w A { nx := fun _ H' => Q .non H', rt := Q } (L2.start n_uses vs) H := by
  obtain ⟨a, i, m, s, rfl, hr, ok, hs, q⟩ := h
  unfold t_uses
  show tRet _ _ [some (V.ref a)] H
  walk_at "go"
  refine ⟨a, i, m, s, rfl, hr, ok, fun H1 l k1 n1 h1 => ?_⟩
  walk_at "ex"
  have hl : i.reads.length ≤ 6 := by
    cases i <;> simp only [Ins.reads, List.length_cons, List.length_nil] <;> try omega
    case nam w a n => split <;> simp
    case three w a b c => split <;> simp
    case call a n g => have := ok.2.2.2; omega
    case callv a b g => have := ok.2.2.2; omega
    case meth a b n g => have := ok.2.2.2.2; omega
    case spawn n g => have := ok.2.2; omega
  refine ⟨l, i.reads, rfl, sqL h1, by omega, fun p n np hn => ?_⟩
  walk_at "ex"
  refine ⟨p, _, n, rfl, upd_same, by omega, fun ns l2 hp hm _ n2 => ?_⟩
  have e : ns = usesOf i := asc_eq hp (bits_asc _) fun k => by
    rw [hm, mem_uses ok hs]
    simp
  rw [e]
  exact q _ l2 ((k1.trans (Keep.new np)).trans (Keep.new n2)) ((k1.trans (Keep.new np)).free n2 (by simp)) upd_same
theorem rd_law_loops {vs H Q E} (T : Txt K w mg A) (h : sp_law_loops K vs H Q E) : t_law_loops K w A { nx := fun _ H' => Q .non H', rt := Q } (L2.start n_law_loops vs) H := by
  obtain ⟨l, rows, m, s, rfl, hR, ok, hl, q⟩ := h
  unfold t_law_loops
  show tSeq _ _ _ [some (V.ref l), none, none] H
  obtain ⟨as, hl1, hp⟩ := hR
  have hlen := Paired.length hp
  walk_at "go"
  rename_i l1 n1
  rw [List.length_map, hlen]
  refine ⟨_, rfl, by omega, by omega, ?_⟩
  rw [Int.toNat_natCast]
  refine go_forR (fun i σ' H' => ∃ x : Option V, σ' = [some (V.ref l), some (V.ref l1), x] ∧ Keep [] H H' ∧ H' l1 = some (.lst ((((List.range i).filter fun p => (rows.drop p).any (jumps (p : Int))).map fun p : Nat => (p : Int)).map V.int)))
    ⟨none, rfl, Keep.new n1, upd_same⟩ (fun i σ' H' hi p => ?_) (fun σ' H' p => ?_)
  · obtain ⟨x, rfl, k, h1⟩ := p
    have hl2 := k _ _ hl1 (by simp)
    have hcut : cutV (as.map V.ref) (some (0 + (i : Int))) none = (as.drop i).map V.ref := by
      unfold cutV
      rw [Int.zero_add, HT.sIx_nat, HT.sIx_none, Nat.min_eq_left (by rw [List.length_map]; omega), ← List.map_drop, List.take_of_length_le (by simp)]
    walk_at "go"
    rename_i l2 n2 l3 n3
    rw [hcut]
    have k2 : Keep [] H' (upd H' l2 (.tup [.str "jump", .int (0 + (i : Int))])) := Keep.new n2
    have k3 := k2.trans (Keep.new (o := .lst ((as.drop i).map V.ref)) n3)
    have pd : Paired (RowAt K H) (as.drop i) (rows.drop i) := Paired.drop i hp
    have dd : DpAll K (upd (upd H' l2 (.tup [.str "jump", .int (0 + (i : Int))])) l3 (.lst ((as.drop i).map V.ref))) ((as.drop i).map V.ref) ((rows.drop i).map fun i => .tuple i.data) :=
      dpA_pairs (fun a m e => (e.keep (k.trans k3) noT_nil).1) pd
    have okd : ∀ j ∈ rows.drop i, j.Ok m s := fun j hj => ok j (List.mem_of_mem_drop hj)
    refine ⟨.tuple [.str "jump", .int (0 + (i : Int))], (rows.drop i).map fun i => .tuple i.data, .tup (sqT (by walk_at "look")) (.cons (.str _) (.cons (.int _) .nil)), .lst (sqL upd_same) dd, gd_shaped (by simp only [gd, gdA, Bool.and_true, Bool.and_eq_true, decide_eq_true_eq]; exact ⟨by simp, by decide +kernel⟩) (by simp [PyData.depth, PyData.depthAll]), gd_shaped ?_ ?_, ?_⟩
    · simp only [gd, Bool.and_eq_true, decide_eq_true_eq]
      refine ⟨by rw [List.length_map, List.length_drop]; omega, gdA_all.2 fun d hd => ?_⟩
      obtain ⟨j, hj, rfl⟩ := List.mem_map.1 hd
      exact Ins.gd (okd j hj)
    · simp only [PyData.depth]
      have : PyData.depthAll ((rows.drop i).map fun i => PyData.tuple i.data) ≤ 2 := depthAll_le fun d hd => by
        obtain ⟨j, hj, rfl⟩ := List.mem_map.1 hd
        exact Ins.depth (okd j hj)
      omega
    · have e1 : (((rows.drop i).map fun i => PyData.tuple i.data).any fun z => PyData.eqv z (.tuple [.str "jump", .int (0 + (i : Int))])) = (rows.drop i).any (jumps (i : Int)) := by
        rw [List.any_map]
        clear dd pd
        generalize rows.drop i = rs at okd
        induction rs with
        | nil => rfl
        | cons r rs ih =>
          rw [List.any_cons, List.any_cons, ih fun j hj => okd j (by simp [hj])]
          congr 1
          show PyData.eqv (.tuple r.data) (.tuple [.str "jump", .int (0 + (i : Int))]) = _
          rw [Int.zero_add]
          exact eqv_jump (okd r (by simp)) (i : Int)
      rw [e1]
      walk_at "ex"
      have h13 := k3 _ _ h1 (by simp)
      cases eb : (rows.drop i).any (jumps (i : Int)) with
      | true =>
        refine go_iteT ?_
        walk_at "go"
        refine go_app h13 (szL ?_) ?_
        · rw [List.length_map, List.length_map]
          have := List.length_filter_le (fun p => (rows.drop p).any (jumps (p : Int))) (List.range i)
          rw [List.length_range] at this
          omega
        · refine ⟨_, rfl, (k.trans k3).fresh n1, ?_⟩
          rw [upd_same, List.range_succ, List.filter_append]
          simp [eb]
      | false =>
        refine go_iteF ?_
        walk_at "go"
        refine ⟨_, rfl, k.trans k3, ?_⟩
        have ef : ([i] : List Nat).filter (fun p => (rows.drop p).any (jumps (p : Int))) = [] := by simp [eb]
        rw [List.range_succ, List.filter_append, ef, List.append_nil]
        exact h13
  · obtain ⟨x, rfl, k, h1⟩ := p
    walk_at "go"
    exact q H' l1 k n1 h1
end LW
end
section
namespace LW
open CM
open PySem.PyData (strOk)
variable {K : PySem.W.Frag} {w : World} {mg : Str → Option Value} {A : Adr}
def ScQ (w : World) (J : It) (g : TG) (tt : TT) (te : TE) (vs : List Nat) (Q : VK) (σ : L2.St) (H1 : Hp) : Prop := ∀ Dn, H1 Dn = none → ∃ W : Nat → Nat → Hp → Prop, (∃ m, W 0 m (upd H1 Dn (SetO w Dn (fun _ => false) 0))) ∧ ∀ i m H, W i m H →
  (J.stop i H ∧ Q (.ref Dn) H) ∨ (J.go i H ∧ ∃ Nx : Hp → Prop, (∀ H', Nx H' → ∃ m', m' < m ∧ W (i + 1) m' H') ∧ ∀ x H', J.yld i H x H' → g x (wipe σ vs) H' fun σ2 H2 => wipe σ2 vs = wipe σ vs ∧ tt σ2 H2 fun b H3 =>
    if b = true then te σ2 H3 fun y H4 => ∃ (c : Int) (S : Int → Bool) (n : Nat), y = .int c ∧ H4 Dn = some (SetO w Dn S n) ∧ n + 1 < scanBound ∧ Nx (upd H4 Dn (SetO w Dn (fun j => S j || decide (j = c)) (if S c = true then n else n + 1))) else Nx H3)
/-- {e for i, x in enumerate(xs) if t}, nothing but the pairs made -/
theorem go_scE {σ : L2.St} {H : Hp} {Q : VK} {tt : TT} {te : TE} {vs : List Nat} {a : Addr} {xs : List V} {p1 p2 : Nat} (hS : SqL K H a xs) (M : Nat → Int → Prop) (hM0 : ∀ k, ¬ M 0 k) (hl : xs.length ≤ 1000) (hw2 : ∀ u v, wipe (((wipe σ vs).set p1 (some u)).set p2 (some v)) vs = wipe σ vs)
    (hs : ∀ (i : Nat) (x : V) (H' : Hp), xs[i]? = some x → Keep [] H H' → ∃ b, (∀ R : Bool → Hp → Prop, R b H' → tt (((wipe σ vs).set p1 (some (.int (i : Nat)))).set p2 (some x)) H' R) ∧
      (b = true → ∃ c, (∀ R : VK, R (.int c) H' → te (((wipe σ vs).set p1 (some (.int (i : Nat)))).set p2 (some x)) H' R) ∧ ∀ k, M (i + 1) k ↔ M i k ∨ k = c) ∧ (b = false → ∀ k, M (i + 1) k ↔ M i k))
    (hd : ∀ D H' S n, H D = none → Keep [] H H' → H' D = some (SetO w D S n) → n ≤ xs.length → (∀ k, S k = true ↔ M xs.length k) → Q (.ref D) H') :
    ∃ a' xs', [V.ref a] = [V.ref a'] ∧ SqL K H a' xs' ∧ ScQ w (Ite K a') (gTup K 2 (gCons (gName p1) (gCons (gName p2) gNil))) tt te vs Q σ H := by
  refine ⟨a, xs, rfl, hS, fun Dn nD => ?_⟩
  refine ⟨fun i m H' => m = xs.length - i ∧ i ≤ xs.length ∧ Keep [] H H' ∧ ∃ S n, H' Dn = some (SetO w Dn S n) ∧ n ≤ i ∧ ∀ k, S k = true ↔ M i k, ⟨xs.length, rfl, Nat.zero_le _, Keep.new nD, _, 0, upd_same, Nat.le_refl _, fun k => ⟨fun z => by simp at z, fun z => (hM0 k z).elim⟩⟩, ?_⟩
  rintro i m H' ⟨rfl, hi, k, S, n, hDn, hn, hSM⟩
  by_cases lt : i < xs.length
  · have e1 : xs[i]? = some xs[i] := List.getElem?_eq_getElem lt
    refine .inr ⟨⟨xs, xs[i], k.seq (by simp) hS, e1⟩, fun H2 => Keep [] H H2 ∧ ∃ S n, H2 Dn = some (SetO w Dn S n) ∧ n ≤ i + 1 ∧ ∀ k, S k = true ↔ M (i + 1) k, fun H2 z => ⟨xs.length - (i + 1), by omega, rfl, lt, z⟩, ?_⟩
    rintro v H2 ⟨T, x, rfl, nT, rfl, hx⟩
    have ex := hx xs (k.seq (by simp) hS)
    have kT : Keep [] H' (upd H' T (.tup [.int (i : Nat), x])) := Keep.new nT
    have hD2 := kT _ _ hDn (by simp)
    refine go_gTup2 (sqT upd_same) ⟨hw2 _ _, ?_⟩
    obtain ⟨b, h1, h2, h3⟩ := hs i x _ ex (k.trans kT)
    refine h1 _ ?_
    cases b with
    | true =>
      obtain ⟨c, h4, h5⟩ := h2 rfl
      rw [if_pos rfl]
      refine h4 _ ⟨c, S, n, rfl, hD2, by unfold scanBound; omega, (k.trans kT).fresh nD, _, _, upd_same, by split <;> omega, fun j => ?_⟩
      rw [h5, Bool.or_eq_true, hSM, decide_eq_true_iff]
    | false =>
      rw [if_neg Bool.false_ne_true]
      exact ⟨k.trans kT, S, n, hD2, by omega, fun j => by rw [h3 rfl, hSM]⟩
  · have e : i = xs.length := by omega
    subst e
    exact .inl ⟨⟨xs, k.seq (by simp) hS, Nat.le_refl _⟩, hd Dn H' S n nD k hDn hn hSM⟩
theorem go_scI {σ : L2.St} {H : Hp} {Q : VK} {wi : TI} {g : TG} {tt : TT} {te : TE} {vs : List Nat} (h : wi σ H fun J H1 => ScQ w J g tt te vs Q σ H1) : tScI w wi g tt te vs σ H Q := h
theorem go_iEnum {σ : L2.St} {H : Hp} {ta : TA} {R : It → Hp → Prop} (h : ta σ H fun vs H1 => ∃ a xs, vs = [.ref a] ∧ SqL K H1 a xs ∧ R (Ite K a) H1) : iEnum K ta σ H R := h
/-- the word of a row, and its target if it is a jump -/
theorem row_jump {H : Hp} {a : Addr} {i : Ins} {m s : Int} (h : RowAt K H a i) (ok : i.Ok m s) : ∃ xs wd, SqT K H a xs ∧ atI xs 0 = some (.str wd) ∧ ((wd = "jump" ∧ ∃ t, i = .jump t ∧ atI xs 1 = some (.int t)) ∨ (¬ wd = "jump" ∧ ∀ t, i ≠ .jump t)) := by
  obtain ⟨z, hs, _⟩ := row_inv h
  refine ⟨_, i.word, hs, ?_, ?_⟩
  · cases i <;> rfl
  · cases i with
    | jump t => exact Or.inl ⟨rfl, t, rfl, rfl⟩
    | two w a b => obtain ⟨e, _⟩ := ok; exact Or.inr ⟨by rcases e with rfl | rfl | rfl | rfl <;> (simp only [Ins.word]; decide +kernel), fun t z => by cases z⟩
    | nam w a b => obtain ⟨e, _⟩ := ok; exact Or.inr ⟨by rcases e with rfl | rfl | rfl <;> (simp only [Ins.word]; decide +kernel), fun t z => by cases z⟩
    | three w a b c => obtain ⟨e, _⟩ := ok; exact Or.inr ⟨by rcases e with rfl | rfl <;> (simp only [Ins.word]; decide +kernel), fun t z => by cases z⟩
    | one w a => obtain ⟨e, _⟩ := ok; exact Or.inr ⟨by rcases e with rfl | rfl | rfl | rfl <;> (simp only [Ins.word]; decide +kernel), fun t z => by cases z⟩
    | const => exact Or.inr ⟨by show ¬ ("const" : Str) = _; decide +kernel, fun t z => by cases z⟩
    | op => exact Or.inr ⟨by show ¬ ("op" : Str) = _; decide +kernel, fun t z => by cases z⟩
    | branch => exact Or.inr ⟨by show ¬ ("branch" : Str) = _; decide +kernel, fun t z => by cases z⟩
    | setg => exact Or.inr ⟨by show ¬ ("setg" : Str) = _; decide +kernel, fun t z => by cases z⟩
    | get => exact Or.inr ⟨by show ¬ ("get" : Str) = _; decide +kernel, fun t z => by cases z⟩
    | put => exact Or.inr ⟨by show ¬ ("put" : Str) = _; decide +kernel, fun t z => by cases z⟩
    | call => exact Or.inr ⟨by show ¬ ("call" : Str) = _; decide +kernel, fun t z => by cases z⟩
    | callv => exact Or.inr ⟨by show ¬ ("callv" : Str) = _; decide +kernel, fun t z => by cases z⟩
    | meth => exact Or.inr ⟨by show ¬ ("method" : Str) = _; decide +kernel, fun t z => by cases z⟩
    | spawn => exact Or.inr ⟨by show ¬ ("spawn" : Str) = _; decide +kernel, fun t z => by cases z⟩
    | pause => exact Or.inr ⟨by show ¬ ("pause" : Str) = _; decide +kernel, fun t z => by cases z⟩
theorem rd_heads {vs H Q E} (T : Txt K w mg A) (h : sp_heads K vs H Q E) : t_heads K w A { nx := fun _ H' => Q .non H', rt := Q } (L2.start n_heads vs) H := by
  obtain ⟨p, lr, lh, kl, D, rfl, C, ok, q⟩ := h
  unfold t_heads
  show tRet _ _ [some (V.ref p), none, none] H
  obtain ⟨Cc, dx, cc, nc, hC⟩ := C.at_
  obtain ⟨as, hlr, hp⟩ := C.rows
  have hlen := Paired.length hp
  have r2 := ok.r2
  walk_at "go"
  refine go_scI (go_iEnum ?_)
  walk_at "ex"
  refine ⟨p, Cc, dx, _, _, rfl, hC, cc, nc.2.2.2.1, rfl, ?_⟩
  refine go_nil ?_
  refine go_scE (p1 := 1) (p2 := 2) (sqL hlr) (fun i k => ∃ pc : Nat, pc < i ∧ D.rows[pc]? = some (Ins.jump k) ∧ k ≤ (pc : Int)) (fun k => by rintro ⟨pc, h, _⟩; omega) (by rw [List.length_map]; omega) (fun u v => by rfl) (fun i x H' hx k => ?_) (fun Dn H' S n nD k hD hn hSM => ?_)
  · rw [List.getElem?_map] at hx
    cases ea : as[i]? with
    | none => rw [ea] at hx; cases hx
    | some a =>
      rw [ea] at hx
      cases hx
      obtain ⟨ins, ei, hr⟩ := Rf.Paired.get hp ea
      have oki := ok.row ei
      obtain ⟨xs, wd, hs, h0, hj⟩ := row_jump (hr.keep k noT_nil) oki
      rcases hj with ⟨hw, t, et, h1⟩ | ⟨hw, hno⟩
      · by_cases hle : t ≤ (i : Int)
        · refine ⟨true, fun R r => ?_, fun _ => ⟨t, fun R r => ?_, fun k => ?_⟩, fun z => by cases z⟩
          · walk_at "ex"
            refine go_ixT hs h0 ?_
            walk_at "ex"
            refine go_ite_t hw ?_
            walk_at "ex"
            refine go_ixT hs h1 ?_
            walk_at "ex"
            rw [decide_eq_true hle]; exact r
          · walk_at "ex"
            exact go_ixT hs h1 r
          · constructor
            · rintro ⟨pc, h1, h2, h3⟩
              by_cases e : pc = i
              · subst e; rw [ei, et] at h2; cases h2; exact Or.inr rfl
              · exact Or.inl ⟨pc, by omega, h2, h3⟩
            · rintro (⟨pc, h1, h2, h3⟩ | rfl)
              · exact ⟨pc, by omega, h2, h3⟩
              · exact ⟨i, by omega, by rw [ei, et], hle⟩
        · refine ⟨false, fun R r => ?_, (fun z => by cases z), fun _ k => ?_⟩
          · walk_at "ex"
            refine go_ixT hs h0 ?_
            walk_at "ex"
            refine go_ite_t hw ?_
            walk_at "ex"
            refine go_ixT hs h1 ?_
            walk_at "ex"
            rw [decide_eq_false hle]; exact r
          · constructor
            · rintro ⟨pc, h1, h2, h3⟩
              by_cases e : pc = i
              · subst e; rw [ei, et] at h2; cases h2; exact absurd h3 hle
              · exact ⟨pc, by omega, h2, h3⟩
            · rintro ⟨pc, h1, h2, h3⟩
              exact ⟨pc, by omega, h2, h3⟩
      · refine ⟨false, fun R r => ?_, (fun z => by cases z), fun _ k => ?_⟩
        · walk_at "ex"
          refine go_ixT hs h0 ?_
          walk_at "ex"
          refine go_ite_f hw ?_
          exact r
        · constructor
          · rintro ⟨pc, h1, h2, h3⟩
            by_cases e : pc = i
            · subst e; rw [ei] at h2; exact absurd (Option.some.inj h2) (hno k)
            · exact ⟨pc, by omega, h2, h3⟩
          · rintro ⟨pc, h1, h2, h3⟩
            exact ⟨pc, by omega, h2, h3⟩
  · walk_at "ex"
    rw [List.length_map, hlen] at hn hSM
    refine ⟨Dn, S, n, rfl, hD, by omega, fun ns l2 hp2 hm _ n2 => ?_⟩
    have e : ns = headsOf D.rows := asc_eq hp2 (heads_asc _) fun k => by
      rw [hm, hSM, mem_heads]
      constructor
      · rintro ⟨pc, h1, h2, h3⟩
        exact ⟨(ok.row h2).1, pc, h2, h3⟩
      · rintro ⟨_, pc, h2, h3⟩
        exact ⟨pc, (List.getElem?_eq_some_iff.mp h2).1, h2, h3⟩
    rw [e]
    exact q _ l2 (k.trans (Keep.new n2)) (k.free n2 (by simp)) upd_same
end LW
end
section
namespace LW
open CM
open PySem.PyData (strOk)
variable {K : PySem.W.Frag} {w : World} {mg : Str → Option Value} {A : Adr}
theorem RowsT.keep {H H' : Hp} {l : Addr} {rows : List Ins} (k : Keep [] H H') (h : RowsT K H l rows) : RowsT K H' l rows := by
  obtain ⟨as, h1, h2⟩ := h
  exact ⟨as, k _ _ h1 (by simp), Paired.mapP h2 fun a i e => e.keep k noT_nil⟩
theorem HandsT.keep {H H' : Hp} {l : Addr} {hs : List Hd} (k : Keep [] H H') (h : HandsT K H l hs) : HandsT K H' l hs := by
  obtain ⟨as, h1, h2⟩ := h
  exact ⟨as, k _ _ h1 (by simp), Paired.mapP h2 fun a i e => sqT_keep k noT_nil e⟩
theorem ToldAt.keep {H H' : Hp} {t : Addr} {D : Drw} (k : Keep [] H H') (h : ToldAt K H t D) : ToldAt K H' t D := by
  obtain ⟨tr, th, h1, h2, h3⟩ := h
  exact ⟨tr, th, k _ _ h1 (by simp), h2.keep k, h3.keep k⟩
theorem rd_told_code {vs H Q E} (T : Txt K w mg A) (h : sp_told_code K vs H Q E) : t_told_code K w A { nx := fun _ H' => Q .non H', rt := Q } (L2.start n_told_code vs) H := by
  obtain ⟨p, lr, lh, kl, D, rfl, C, q⟩ := h
  unfold t_told_code
  show tRet _ _ [some (V.ref p)] H
  obtain ⟨Cc, dx, cc, nc, hC⟩ := C.at_
  obtain ⟨n1, n2, n3, n4, n5, n6⟩ := nc
  obtain ⟨as, hlr, hp⟩ := C.rows
  obtain ⟨bs, hlh, hq⟩ := C.hs
  walk_at "go"
  refine ⟨p, Cc, dx, _, _, rfl, hC, cc, n1, rfl, ?_⟩
  walk_at "ex"
  refine ⟨p, Cc, dx, _, _, rfl, hC, cc, n2, rfl, ?_⟩
  walk_at "ex"
  refine ⟨p, Cc, dx, _, _, rfl, hC, cc, n3, rfl, ?_⟩
  walk_at "ex"
  refine ⟨p, Cc, dx, _, _, rfl, hC, cc, n4, rfl, ?_⟩
  walk_at "ex"
  refine go_tupL (sqL hlr) (fun l1 m1 => ?_)
  have k1 : Keep [] H (upd H l1 (.tup (as.map V.ref))) := Keep.new m1
  walk_at "ex"
  refine ⟨p, Cc, dx, _, _, rfl, k1 _ _ hC (by simp), cc, n5, rfl, ?_⟩
  walk_at "ex"
  refine go_tupL (sqL (k1 _ _ hlh (by simp))) (fun l2 m2 => ?_)
  walk_at "ex"
  rename_i l3 m3
  generalize hH : upd (upd (upd H l1 (.tup (as.map V.ref))) l2 (.tup (bs.map V.ref))) l3 _ = H3
  have k3 : Keep [] H H3 := by subst hH; walk_at "keep"
  have e1 : H3 l1 = some (.tup (as.map V.ref)) := by subst hH; walk_at "look"
  have e2 : H3 l2 = some (.tup (bs.map V.ref)) := by subst hH; walk_at "look"
  have e3 : H3 l3 = some (.tup [.str D.nm, .int D.pa, .int D.sz, .ref l1, .ref l2]) := by subst hH; exact upd_same
  exact q H3 l3 k3 ⟨l1, l2, e3, ⟨as, e1, Paired.mapP hp fun a i e => e.keep k3 noT_nil⟩, ⟨bs, e2, Paired.mapP hq fun a i e => sqT_keep k3 noT_nil e⟩⟩
/-- a tuple of five, unpacked -/
theorem go_gTup5 {σ : L2.St} {H : Hp} {a : Addr} {R : L2.St → Hp → Prop} {i1 i2 i3 i4 i5 : Nat} {y1 y2 y3 y4 y5 : V} (h : SqT K H a [y1, y2, y3, y4, y5]) (q : R (((((σ.set i1 (some y1)).set i2 (some y2)).set i3 (some y3)).set i4 (some y4)).set i5 (some y5)) H) :
    gTup K 5 (gCons (gName i1) (gCons (gName i2) (gCons (gName i3) (gCons (gName i4) (gCons (gName i5) gNil))))) (.ref a) σ H R :=
  ⟨a, _, rfl, h, rfl, y1, _, rfl, y2, _, rfl, y3, _, rfl, y4, _, rfl, y5, _, rfl, rfl, q⟩
theorem rd_code_of {vs H Q E} (T : Txt K w mg A) (h : sp_code_of K vs H Q E) : t_code_of K w A { nx := fun _ H' => Q .non H', rt := Q } (L2.start n_code_of vs) H := by
  obtain ⟨t, D, rfl, ⟨tr, th, h1, ⟨as, h2, hp⟩, ⟨bs, h3, hq⟩⟩, q⟩ := h
  unfold t_code_of
  show tSeq _ _ _ [some (V.ref t), none, none, none, none, none] H
  walk_at "stm"
  refine go_asgG ?_
  walk_at "ex"
  refine go_gTup5 (sqT h1) ?_
  walk_at "go"
  intro x dx nx ndx ndxx
  have kb : Keep [] H (upd (upd H dx (.own x)) x (.ins A.C_Code dx [])) := ((Keep.refl).trans (Keep.new ndx)).fresh nx
  refine ⟨x, A.C_Code, dx, tr, th, D.nm, D.pa, D.sz, _, _, rfl, upd_same, T.q_Code, ⟨T.na_Code_name, T.na_Code_params, T.na_Code_size, T.na_Code_rows, T.na_Code_handlers, T.na_Code_known_live⟩, Or.inr (kb _ _ h2 (by simp)), Or.inr (kb _ _ h3 (by simp)), fun H3 lr' lh' k3 n1 n2 ne hx hlr hlh => ?_⟩
  have kc : Keep [] H H3 := keep_fr kb k3 nx
  exact ⟨rfl, q H3 x lr' lh' kc ⟨⟨_, dx, T.q_Code, ⟨T.na_Code_name, T.na_Code_params, T.na_Code_size, T.na_Code_rows, T.na_Code_handlers, T.na_Code_known_live⟩, hx⟩, ⟨as, hlr, Paired.mapP hp fun a i e => e.keep kc noT_nil⟩, ⟨bs, hlh, Paired.mapP hq fun a i e => sqT_keep kc noT_nil e⟩⟩⟩
theorem optV_dp {H : Hp} (o : Option Int) : ∃ d, Dp K H (optV o) d ∧ gd d = true ∧ d.depth = 0 := by
  cases o with
  | none => exact ⟨_, .non, rfl, by simp [PyData.depth]⟩
  | some x => exact ⟨_, .int x, rfl, by simp [PyData.depth]⟩
theorem ints_gd {l : List Int} (h : l.length ≤ 1000) : gd (.list (intsD l)) = true ∧ (PyData.list (intsD l)).depth < 5 := by
  constructor
  · simp only [gd, Bool.and_eq_true, decide_eq_true_eq]
    exact ⟨by unfold intsD; rw [List.length_map]; exact h, gd_ints l⟩
  · simp only [PyData.depth, depth_ints]; omega
theorem dp_ints {H : Hp} {a : Addr} {l : List Int} (h : H a = some (.lst (l.map V.int))) : Dp K H (.ref a) (.list (intsD l)) := .lst (sqL h) (dpAll_ints l)
theorem uses_len (i : Ins) : (usesOf i).length ≤ 10 := len_bits _
theorem rd_law_row_agrees {vs H Q E} (T : Txt K w mg A) (h : sp_law_row_agrees K vs H Q E) : t_law_row_agrees K w A { nx := fun _ H' => Q .non H', rt := Q } (L2.start n_law_row_agrees vs) H := by
  obtain ⟨a, i, m, s, rfl, hr, ok, s1, s2, q⟩ := h
  unfold t_law_row_agrees
  show tSeq _ _ _ [some (V.ref a), some (V.int s), none, none] H
  walk_at "go"
  refine ⟨a, i, m, s, rfl, hr, ok, fun H1 l1 k1 n1 h1 => ?_⟩
  walk_at "go"
  refine ⟨a, i, m, s, rfl, hr.keep k1 noT_nil, ok, s2, fun H2 l2 k2 n2 h2 => ?_⟩
  walk_at "go"
  refine ⟨_, rfl, by omega, by omega, ?_⟩
  have h12 := k2 _ _ h1 (by simp)
  refine go_lcRF (fun k => .int (0 + (k : Nat))) (fun k => decide ((k : Int) ∈ i.reads)) (szL (by omega)) (fun v => rfl) (fun k hk H8 R k8 h => ?_) (fun k hk _ H8 R k8 h => ?_) (fun Dn H3 nD k3 hD => ?_)
  · walk_at "ex"
    refine go_inI (sqL (k8 _ _ h12 (by simp))) ?_
    walk_at "ex"
    rw [Int.zero_add]
    exact h _ Keep.refl
  · walk_at "ex"
    exact h _ Keep.refl
  · have e : (((List.range s.toNat).filter fun k : Nat => decide ((k : Int) ∈ i.reads)).map fun k : Nat => V.int (0 + (k : Nat))) = (usesOf i).map V.int := by
      have z : (((List.range s.toNat).filter fun k : Nat => decide ((k : Int) ∈ i.reads)).map fun k : Nat => (k : Int)) = usesOf i := asc_eq (asc_nat _) (bits_asc _) fun x => by
        rw [mem_uses ok s2, List.mem_map]
        constructor
        · rintro ⟨k, hk, rfl⟩
          exact of_decide_eq_true (List.mem_filter.1 hk).2
        · intro hx
          have := reads_ok ok x hx
          unfold Sl at this
          refine ⟨x.toNat, List.mem_filter.2 ⟨List.mem_range.2 (by omega), decide_eq_true ?_⟩, by omega⟩
          have e : ((x.toNat : Nat) : Int) = x := by omega
          rw [e]; exact hx
      rw [← z, List.map_map]
      apply List.map_congr_left
      intro k _
      show V.int (0 + (k : Int)) = V.int (k : Int)
      rw [Int.zero_add]
    rw [e] at hD
    have k13 := k2.trans k3
    walk_at "ex"
    refine ⟨_, _, _, rfl, dp_ints (k3 _ _ h2 (by simp)), dp_ints hD, (ints_gd (by have := uses_len i; omega)).1, (ints_gd (by have := uses_len i; omega)).2, fun H4 k4 => ?_⟩
    have hr4 := ((hr.keep k1 noT_nil).keep k13 noT_nil).keep k4 noT_nil
    walk_at "go"
    refine ⟨a, i, m, s, rfl, hr4, ok, ?_⟩
    walk_at "go"
    refine ⟨a, i, m, s, rfl, hr4, ok, fun H5 k5 => ?_⟩
    walk_at "go"
    obtain ⟨d, hd1, hd2, hd3⟩ := optV_dp (K := K) (H := H5) i.written
    exact ⟨_, _, d, rfl, hd1, hd1, hd2, by omega, fun H6 k6 => q H6 ((((k1.trans k13).trans k4).trans k5).trans k6)⟩
theorem rd_law_has {vs H Q E} (T : Txt K w mg A) (h : sp_law_has K vs H Q E) : t_law_has K w A { nx := fun _ H' => Q .non H', rt := Q } (L2.start n_law_has vs) H := by
  obtain ⟨p, lr, lh, q0, lr', lh', kl, D, rfl, C, hD, ok, q⟩ := h
  unfold t_law_has
  show tRet _ _ [some (V.ref p), some (V.ref q0)] H
  obtain ⟨Cc, dx, cc, nc, hC⟩ := C.at_
  obtain ⟨n1, n2, n3, n4, n5, n6⟩ := nc
  walk_at "go"
  refine ⟨p, Cc, dx, _, _, rfl, hC, cc, n1, rfl, ?_⟩
  walk_at "ex"
  refine ⟨p, Cc, dx, _, _, rfl, hC, cc, n2, rfl, ?_⟩
  walk_at "ex"
  refine ⟨p, Cc, dx, _, _, rfl, hC, cc, n3, rfl, ?_⟩
  walk_at "ex"
  refine ⟨p, Cc, dx, _, _, rfl, hC, cc, n4, rfl, ?_⟩
  walk_at "ex"
  refine ⟨p, Cc, dx, _, _, rfl, hC, cc, n5, rfl, ?_⟩
  walk_at "ex"
  rename_i l1 m1
  have k1 : Keep [] H (upd H l1 (.lst [.str D.nm, .int D.pa, .int D.sz, .ref lr, .ref lh])) := Keep.new m1
  have C1 := C.keep k1
  have D1 := hD.keep0 k1
  refine ⟨_, _, .list [.str D.nm, .int D.pa, .int D.sz, rowsD D.rows, handsD D.hs], rfl, .lst (sqL upd_same) (.cons (.str _) (.cons (.int _) (.cons (.int _) (.cons C1.rows.dp (.cons C1.hs.dp .nil))))),
    .lst (sqL D1.at_) (.cons (.str _) (.cons (.int _) (.cons (.int _) (.cons D1.rows.dp (.cons D1.hs.dp .nil))))), ?_, ?_, fun H2 k2 => q H2 (k1.trans k2)⟩
  · simp only [gd, gdA, Bool.and_eq_true, decide_eq_true_eq]
    exact ⟨by simp, ok.nm.ok, trivial, trivial, (rows_gd ok).1, (hands_gd ok).1, trivial⟩
  · simp only [PyData.depth, PyData.depthAll]
    have h1 := (rows_gd ok).2
    have h2 := (hands_gd ok).2
    omega
end LW
end
section
namespace LW
open CM
open PySem.PyData (strOk)
variable {K : PySem.W.Frag} {w : World} {mg : Str → Option Value} {A : Adr}
abbrev Dq := Addr × Addr × Drw
def DrS (K : PySem.W.Frag) (H : Hp) (S : List Addr) (q : Addr) (m : Dq) : Prop := DrawnAt K H q m.1 m.2.1 m.2.2 ∧ q ∉ S ∧ m.1 ∉ S ∧ m.2.1 ∉ S
theorem DrS.keep {H H' : Hp} {S : List Addr} {q : Addr} {m : Dq} (k : Keep S H H') (nt : NoT H S) (h : DrS K H S q m) : DrS K H' S q m :=
  ⟨⟨k _ _ h.1.at_ h.2.1, RowsAt.keep k nt h.2.2.1 h.1.rows, HandsAt.keep k nt h.2.2.2 h.1.hs⟩, h.2⟩
def CdS (K : PySem.W.Frag) (H : Hp) (S : List Addr) (c : Addr) (m : Dq) : Prop := ∃ lr lh, CodeAt K H c lr lh .non m.2.2 ∧ c ∉ S ∧ lr ∉ S ∧ lh ∉ S
theorem CdS.keep {H H' : Hp} {S : List Addr} {c : Addr} {m : Dq} (k : Keep S H H') (nt : NoT H S) (h : CdS K H S c m) : CdS K H' S c m := by
  obtain ⟨lr, lh, C, n0, n1, n2⟩ := h
  obtain ⟨Cc, dx, cc, nc, e⟩ := C.at_
  exact ⟨lr, lh, ⟨⟨Cc, dx, cc, nc, k _ _ e n0⟩, RowsAt.keep k nt n1 C.rows, HandsAt.keep k nt n2 C.hs⟩, n0, n1, n2⟩
theorem Pot.keepS {H H' : Hp} {S : List Addr} {p g l k : Addr} (P : Pot H p g l k) (kp : Keep S H H') (h : ∀ x ∈ S, x ∉ [p, g, l, k]) : Pot H' p g l k := by
  obtain ⟨ws, hk⟩ := P.kn
  have n : ∀ {y : Addr}, y ∈ [p, g, l, k] → y ∉ S := fun m z => h _ z m
  exact ⟨P.box.keep kp (n (by simp)) (n (by simp)) (n (by simp)), ⟨ws, kp _ _ hk.1 (n (by simp)), hk.2⟩, P.np, P.ng, P.nl⟩
def catD : Option Hd → PyData
  | none => .none
  | some h => hdD h
theorem CatV.dp {H : Hp} {o : Option Hd} {v : V} (h : CatV K H o v) : ∃ d, Dp K H v d ∧ gd d = true ∧ d.depth < 5 ∧ d = catD o := by
  cases o with
  | none =>
    have h : v = .non := h
    subst h
    exact ⟨_, .non, rfl, by simp [PyData.depth], rfl⟩
  | some x =>
    obtain ⟨a, rfl, h⟩ := h
    exact ⟨_, dp_hand h, rfl, by simp [hdD, PyData.depth, PyData.depthAll], rfl⟩
theorem CatV.keep {H H' : Hp} {o : Option Hd} {v : V} (k : Keep [] H H') (h : CatV K H o v) : CatV K H' o v := by
  cases o with
  | none => exact h
  | some x =>
    obtain ⟨a, rfl, h⟩ := h
    exact ⟨a, rfl, sqT_keep k noT_nil h⟩
theorem later_le (i : Ins) (j : Int) : (later i j).length ≤ 2 := by
  cases i <;> simp only [later] <;> try simp
  case branch a t =>
    split
    · simp
    · split <;> simp
  case one wd a => split <;> simp
def toldD (D : Drw) : PyData := .tuple [.str D.nm, .int D.pa, .int D.sz, .tuple (D.rows.map fun i => .tuple i.data), .tuple (D.hs.map hdD)]
theorem ToldAt.dp {H : Hp} {t : Addr} {D : Drw} (h : ToldAt K H t D) : Dp K H (.ref t) (toldD D) := by
  obtain ⟨tr, th, h1, ⟨as, h2, hp⟩, ⟨bs, h3, hq⟩⟩ := h
  exact .tup (sqT h1) (.cons (.str _) (.cons (.int _) (.cons (.int _) (.cons (.tup (sqT h2) (dpA_pairs (f := fun i : Ins => .tuple i.data) (fun a m e => e.1) hp)) (.cons (.tup (sqT h3) (dpA_pairs (fun a m e => dp_hand e) hq)) .nil)))))
theorem told_gd {D : Drw} (ok : D.Ok) : gd (toldD D) = true ∧ (toldD D).depth < 5 := by
  have h1 := rows_gd ok
  have h2 := hands_gd ok
  unfold rowsD handsD at *
  simp only [gd, PyData.depth, Bool.and_eq_true] at h1 h2
  unfold toldD
  constructor
  · simp only [gd, gdA, Bool.and_eq_true, decide_eq_true_eq] at *
    exact ⟨by simp, ok.nm.ok, trivial, trivial, ⟨h1.1.1, h1.1.2⟩, ⟨h2.1.1, h2.1.2⟩, trivial⟩
  · simp only [PyData.depth, PyData.depthAll]
    omega
theorem go_neD {x y : V} {H : Hp} {Q : VK} {d : PyData} (hx : Dp K H x d) (hy : Dp K H y d) (g : gd d = true) (n : d.depth ≤ 64) (q : Q (.bl false) H) : rNeD K x y H Q :=
  ⟨d, d, hx, hy, gd_shaped g n, gd_shaped g n, by rw [gd_eqv d g]; exact q⟩
theorem ref_at {as : List Addr} {k : Nat} {a : Addr} (h : as[k]? = some a) : atI (as.map V.ref) (k : Int) = some (.ref a) := atI_nat (by rw [List.getElem?_map, h]; rfl)
theorem rd_law {vs H Q E} (T : Txt K w mg A) (h : sp_law K vs H Q E) : t_law K w A { nx := fun _ H' => Q .non H', rt := Q } (L2.start n_law vs) H := by
  obtain ⟨a, ns, rfl, hS, hl, q⟩ := h
  unfold t_law
  show tSeq _ _ _ [some (V.ref a), none, none, none, none, none, none, none, none, none, none, none, none, none] H
  walk_at "go"
  refine ⟨a, ns, rfl, hS, hl, fun H1 p g l k1 np ng nl B1 => ?_⟩
  walk_at "stm"
  walk_at "stm"
  walk_at "ex"
  rename_i kn nkn
  have P2 : Pot (upd H1 kn (.lst [])) p g l kn := by
    obtain ⟨⟨o1, h1⟩, ⟨o2, h2⟩, ⟨o3, h3⟩⟩ := B1.there
    exact ⟨B1.new nkn, ⟨[], upd_same, by simp, by simp⟩, (fun e => by rw [e, h1] at nkn; cases nkn), (fun e => by rw [e, h2] at nkn; cases nkn), (fun e => by rw [e, h3] at nkn; cases nkn)⟩
  generalize upd H1 kn (.lst []) = H2 at P2
  clear nkn B1 k1 np ng nl hS
  walk_at "stm"
  walk_at "stm"
  walk_at "ex"
  refine ⟨p, g, l, kn, rfl, P2, fun q1 lr1 lh1 D1 H3 k3 P3 n1 n2 n3 d1 ok1 => ?_⟩
  walk_at "ex"
  refine ⟨p, g, l, kn, rfl, P3, fun q2 lr2 lh2 D2 H4 k4 P4 m1 m2 m3 d2 ok2 => ?_⟩
  walk_at "ex"
  rename_i lp nlp
  have nt3 := P3.noT
  have o1 := P2.off n1
  have o2 := P2.off n2
  have o3 := P2.off n3
  have o4 := P3.off m1
  have o5 := P3.off m2
  have o6 := P3.off m3
  have o7 := P4.off nlp
  have d1' : DrawnAt K H4 q1 lr1 lh1 D1 := ⟨k4 _ _ d1.at_ o1, RowsAt.keep k4 nt3 o2 d1.rows, HandsAt.keep k4 nt3 o3 d1.hs⟩
  have k5 : Keep [] H4 (upd H4 lp (.lst [.ref q1, .ref q2])) := Keep.new nlp
  have h5 : (upd H4 lp (.lst [.ref q1, .ref q2])) lp = some (.lst ([q1, q2].map V.ref)) := upd_same
  generalize upd H4 lp (.lst [.ref q1, .ref q2]) = H5 at k5 h5
  have P5 := P4.keep k5
  obtain ⟨ms, hms⟩ : ∃ ms : List Dq, ms = [(lr1, lh1, D1), (lr2, lh2, D2)] := ⟨_, rfl⟩
  have dr : Paired (DrS K H5 [p, g, kn]) [q1, q2] ms := by
    rw [hms]
    exact .cons ⟨d1'.keep0 k5, o1, o2, o3⟩ (.cons ⟨d2.keep0 k5, o4, o5, o6⟩ .nil)
  have okm : ∀ m ∈ ms, m.2.2.Ok := by
    rw [hms]; intro m hm
    simp only [List.mem_cons, List.not_mem_nil, or_false] at hm
    rcases hm with rfl | rfl
    · exact ok1
    · exact ok2
  have two : ms.length = 2 := by rw [hms]; rfl
  generalize hqs : ([q1, q2] : List Addr) = qs at h5 dr
  clear hms d1 d2 d1' o1 o2 o3 o4 o5 o6 m1 m2 m3 n1 n2 n3 nt3 P2 P3 P4 k3 k4 ok1 ok2 nlp k5 hqs q1 q2 lr1 lr2 lh1 lh2 D1 D2 H4 H3 H2 H1
  walk_at "stm"
  walk_at "stm"
  walk_at "ex"
  rename_i lc nlc
  have k6 : Keep [] H5 (upd H5 lc (.lst [])) := Keep.new nlc
  have olc := P5.off nlc
  have olc4 := P5.off4 nlc
  have hlc6 : (upd H5 lc (.lst [])) lc = some (.lst ([].map V.ref)) := upd_same
  have nlpc : lp ≠ lc := fun e => by rw [← e, h5] at nlc; cases nlc
  generalize upd H5 lc (.lst []) = H6 at k6 hlc6
  have P6 := P5.keep k6
  have h6 := k6 _ _ h5 (by simp)
  have dr6 : Paired (fun q (m : Dq) => DrS K H6 [p, g, kn] q m ∧ q ≠ lc ∧ m.1 ≠ lc ∧ m.2.1 ≠ lc) qs ms := Paired.mapP dr fun c m e => by
    obtain ⟨⟨as, h1, _⟩, ⟨bs, h2, _⟩⟩ := And.intro e.1.rows e.1.hs
    exact ⟨⟨e.1.keep0 k6, e.2⟩, (fun z => by have := e.1.at_; rw [z, nlc] at this; cases this), (fun z => by rw [z, nlc] at h1; cases h1), fun z => by rw [z, nlc] at h2; cases h2⟩
  have noTS : ∀ {H : Hp} {cs : List Addr}, Pot H p g l kn → H lc = some (.lst (cs.map V.ref)) → NoT H [lc, p, g, kn] := fun P h => noT_lst h P.noT
  have exS : ∀ {H : Hp} {cs : List Addr} {x : Addr}, Pot H p g l kn → H lc = some (.lst (cs.map V.ref)) → H x = none → x ∉ [lc, p, g, kn] := fun {H cs x} P h n m => by
    rcases List.mem_cons.1 m with e | m
    · rw [← e, n] at h; cases h
    · exact P.off n m
  clear dr P5 k6 h5 nlc
  walk_at "stm"
  walk_at "stm"
  walk_at "ex"
  refine go_refs dr6 (sqL h6) (fun pre σ' H' => ∃ (x5 x6 x7 : Option V) (cs : List Addr), σ' = [some (V.ref a), some (V.ref p), some (V.ref kn), some (V.ref lp), some (V.ref lc), x5, x6, x7, none, none, none, none, none, none] ∧ Keep [lc] H6 H' ∧ Pot H' p g l kn ∧
      H' lc = some (.lst (cs.map V.ref)) ∧ Paired (CdS K H' [lc, p, g, kn]) cs pre) ⟨none, none, none, [], rfl, Keep.refl, P6, hlc6, .nil⟩ (fun pre σ' H' z => ?_) (fun pre m b σ' H' hm hb hpre z => ?_) (fun σ' H' z => ?_)
  · obtain ⟨_, _, _, _, _, k, _⟩ := z
    exact sqL (k _ _ h6 (by simpa using nlpc))
  · obtain ⟨x5, x6, x7, cs, rfl, k, P, hc, hp⟩ := z
    refine go_gName ?_
    have nt6 : NoT H6 [lc] := noT_lst hlc6 noT_nil
    have dq : DrawnAt K H' b m.1 m.2.1 m.2.2 := ⟨k _ _ hb.1.1.at_ (by simpa using hb.2.1), RowsAt.keep k nt6 (by simpa using hb.2.2.1) hb.1.1.rows, HandsAt.keep k nt6 (by simpa using hb.2.2.2) hb.1.1.hs⟩
    have ntS := noTS P hc
    have lcs := Paired.length hp
    obtain ⟨ras, hra, hrp⟩ := dq.rows
    obtain ⟨has, hha, hhp⟩ := dq.hs
    walk_at "go"
    refine go_ixL (sqL dq.at_) rfl ?_
    walk_at "go"
    rename_i l1 n1
    refine go_ixL (sqL_upd (sqL dq.at_) n1) rfl ?_
    walk_at "go"
    rename_i l2 n2
    have nl1 : H' l1 = none := n1
    have nl2 : H' l2 = none := by walk_at "free"
    have ol1 := exS P hc nl1
    have ol2 := exS P hc nl2
    have n12 : l1 ≠ l2 := fun e => by rw [← e, upd_same] at n2; cases n2
    generalize hHa : upd (upd H' l1 (.lst (ras.map V.ref))) l2 (.lst (has.map V.ref)) = Ha
    have ka : Keep [] H' Ha := by subst hHa; walk_at "keep"
    have e1 : Ha l1 = some (.lst (ras.map V.ref)) := by subst hHa; rw [upd_ne n12, upd_same]
    have e2 : Ha l2 = some (.lst (has.map V.ref)) := by subst hHa; exact upd_same
    clear hHa n1 n2
    have eb := ka _ _ dq.at_ (by simp)
    have hca := ka _ _ hc (by simp)
    have Pa := P.keep ka
    refine go_ixL (sqL eb) rfl ?_
    walk_at "ex"
    intro x dx nx ndx ndxx
    have kb : Keep [] Ha (upd (upd Ha dx (.own x)) x (.ins A.C_Code dx [])) := ((Keep.refl).trans (Keep.new ndx)).fresh nx
    refine ⟨x, A.C_Code, dx, l1, l2, m.2.2.nm, m.2.2.pa, m.2.2.sz, _, _, rfl, upd_same, T.q_Code, ⟨T.na_Code_name, T.na_Code_params, T.na_Code_size, T.na_Code_rows, T.na_Code_handlers, T.na_Code_known_live⟩, Or.inl (kb _ _ e1 (by simp)), Or.inl (kb _ _ e2 (by simp)), fun H3 lr' lh' k3 m1 m2 ne hx hlr hlh => ?_⟩
    have nlr : Ha lr' = none := kb.free m1 (by simp)
    have nlh : Ha lh' = none := kb.free m2 (by simp)
    have kc : Keep [] Ha H3 := keep_fr kb k3 nx
    have kac := ka.trans kc
    refine ⟨rfl, ?_⟩
    have hc3 := kc _ _ hca (by simp)
    have e13 := kc _ _ e1 (by simp)
    have e23 := kc _ _ e2 (by simp)
    have n1c : l1 ≠ lc := fun e => ol1 (by simp [e])
    have n2c : l2 ≠ lc := fun e => ol2 (by simp [e])
    walk_at "ex"
    walk_at "go"
    rename_i tp ntp
    generalize hH4 : upd (upd H3 lc (.lst (cs.map V.ref ++ [.ref x]))) l1 (.lst []) = H4 at ntp ⊢
    have e24 : H4 l2 = some (.lst (has.map V.ref)) := by subst hH4; walk_at "look"
    have hc4 : H4 lc = some (.lst ((cs ++ [x]).map V.ref)) := by
      subst hH4; rw [upd_ne n1c.symm, upd_same, List.map_append]; rfl
    have k4 : Keep [lc, l1] H3 H4 := by subst hH4; exact ((Keep.refl).upd (by simp)).upd (by simp)
    clear hH4
    have okD := okm m hm
    have lh5 := okD.hl
    have lhas := Paired.length hhp
    refine go_app (Keep.new (S := []) ntp _ _ e24 (by simp)) (szL (by rw [List.length_map]; omega)) ?_
    generalize hHE : upd (upd H4 tp _) l2 _ = HE
    have kE : Keep [lc, l1, l2] H3 HE := by
      subst hHE
      exact ((k4.mono (fun y hy => by simp only [List.mem_cons, List.not_mem_nil, or_false] at hy ⊢; rcases hy with h | h <;> simp [h])).trans (Keep.new ntp)).upd (by simp)
    have hcE : HE lc = some (.lst ((cs ++ [x]).map V.ref)) := by
      subst hHE; rw [upd_ne n2c.symm]; exact Keep.new (S := []) ntp _ _ hc4 (by simp)
    clear hHE
    have kA : Keep [lc] H' HE := fun y o e n => by
      refine kE _ _ (kac _ _ e (by simp)) ?_
      simp only [List.mem_cons, List.not_mem_nil, or_false, not_or] at n ⊢
      exact ⟨n, (fun z => by rw [z, nl1] at e; cases e), fun z => by rw [z, nl2] at e; cases e⟩
    have nt3 : NoT H3 [lc, l1, l2] := noT_lst hc3 (noT_lst e13 (noT_lst e23 noT_nil))
    have new3 : ∀ {y : Addr}, Ha y = none → y ∉ [lc, l1, l2] := fun {y} n z => by
      simp only [List.mem_cons, List.not_mem_nil, or_false] at z
      rcases z with z | z | z
      · rw [z, hca] at n; cases n
      · rw [z, e1] at n; cases n
      · rw [z, e2] at n; cases n
    have C3 : CodeAt K H3 x lr' lh' .non m.2.2 := ⟨⟨_, dx, T.q_Code, ⟨T.na_Code_name, T.na_Code_params, T.na_Code_size, T.na_Code_rows, T.na_Code_handlers, T.na_Code_known_live⟩, hx⟩, ⟨ras, hlr, Paired.mapP hrp fun a i e => e.keep kac noT_nil⟩, ⟨has, hlh, Paired.mapP hhp fun a i e => sqT_keep kac noT_nil e⟩⟩
    have CE : CodeAt K HE x lr' lh' .non m.2.2 := ⟨⟨_, dx, T.q_Code, ⟨T.na_Code_name, T.na_Code_params, T.na_Code_size, T.na_Code_rows, T.na_Code_handlers, T.na_Code_known_live⟩, kE _ _ hx (new3 nx)⟩, RowsAt.keep kE nt3 (new3 nlr) C3.rows, HandsAt.keep kE nt3 (new3 nlh) C3.hs⟩
    exact ⟨_, _, _, cs ++ [x], rfl, k.trans kA, P.keepS kA (by simpa using olc4), hcE, Paired.app (Paired.mapP hp fun a i e => e.keep (kA.mono (by simp)) ntS) (.cons ⟨lr', lh', CE, exS Pa hca nx, exS Pa hca nlr, exS Pa hca nlh⟩ .nil)⟩
  · obtain ⟨x5, x6, x7, cs, rfl, k, P, hc, hp⟩ := z
    have nt6 : NoT H6 [lc] := noT_lst hlc6 noT_nil
    have dr : Paired (DrS K H' [p, g, kn]) qs ms := Paired.mapP dr6 fun b m hb => ⟨⟨k _ _ hb.1.1.at_ (by simpa using hb.2.1), RowsAt.keep k nt6 (by simpa using hb.2.2.1) hb.1.1.rows, HandsAt.keep k nt6 (by simpa using hb.2.2.2) hb.1.1.hs⟩, hb.1.2⟩
    have hlp := k _ _ h6 (by simpa using nlpc)
    have cd : Paired (CdS K H' [p, g, kn]) cs ms := Paired.mapP hp fun c m e => by
      obtain ⟨lr, lh, C, n0, n1, n2⟩ := e
      exact ⟨lr, lh, C, fun z => n0 (List.mem_cons_of_mem _ z), fun z => n1 (List.mem_cons_of_mem _ z), fun z => n2 (List.mem_cons_of_mem _ z)⟩
    clear k hp nt6 dr6 h6 hlc6 P6
    walk_at "stm"
    walk_at "stm"
    walk_at "ex"
    refine ⟨(), rfl, fun H1 lw k1 n1 h1 => ?_⟩
    have P1 := P.keep k1
    have olw := P.off n1
    have dr1 : Paired (DrS K H1 [p, g, kn]) qs ms := Paired.mapP dr fun b m e => ⟨e.1.keep0 k1, e.2⟩
    have cd1 : Paired (CdS K H1 [p, g, kn]) cs ms := Paired.mapP cd fun b m e => by
      obtain ⟨lr, lh, C, n⟩ := e
      exact ⟨lr, lh, C.keep k1, n⟩
    have hlp1 := k1 _ _ hlp (by simp)
    have hc1 := k1 _ _ hc (by simp)
    clear dr cd hlp hc k1 n1 P
    refine go_forM V.str (sqL h1) (fun pre σ' H2 => ∃ x8 : Option V, σ' = [some (V.ref a), some (V.ref p), some (V.ref kn), some (V.ref lp), some (V.ref lc), x5, x6, x7, x8, none, none, none, none, none] ∧ Keep [p, g, kn] H1 H2 ∧ Pot H2 p g l kn) ⟨none, rfl, Keep.refl, P1⟩ (fun pre σ' H2 z => ?_) (fun pre wd post σ' H2 e z => ?_) (fun σ' H2 z => ?_)
    · obtain ⟨_, _, k, _⟩ := z
      exact sqL (k _ _ h1 olw)
    · obtain ⟨x8, rfl, k, P⟩ := z
      refine go_gName ?_
      refine go_ifS ?_
      walk_at "ex"
      refine ⟨p, g, l, kn, wd, 9, 10, rfl, P, by rw [e]; simp, by omega, by omega, by omega, by omega, fun a2 i H3 k3 P3 ra ok ew => ?_⟩
      walk_at "ex"
      refine ⟨a2, i, 9, 10, rfl, ra, ok, by omega, by omega, fun H4 k4 => ?_⟩
      walk_at "ex"
      exact go_next ⟨_, rfl, (k.trans k3).trans (keep0 k4), P3.keep k4⟩
    · obtain ⟨x8, rfl, k, P⟩ := z
      have ntP := P1.noT
      have dr2 : Paired (DrS K H2 [p, g, kn]) qs ms := Paired.mapP dr1 fun b m e => e.keep k ntP
      have cd2 : Paired (CdS K H2 [p, g, kn]) cs ms := Paired.mapP cd1 fun b m e => e.keep k ntP
      have hlp2 := k _ _ hlp1 o7
      have hc2 := k _ _ hc1 olc
      clear dr1 cd1 hlp1 hc1 P1 ntP h1 olw k
      walk_at "stm"
      walk_at "stm"
      walk_at "ex"
      rename_i lk nlk
      have kk : Keep [] H2 (upd H2 lk (.lst [.int 0, .int 1, .int 0])) := Keep.new nlk
      have hlk2 : (upd H2 lk (.lst [.int 0, .int 1, .int 0])) lk = some (.lst (([0, 1, 0] : List Int).map V.int)) := upd_same
      have dr2 : Paired (DrS K (upd H2 lk (.lst [.int 0, .int 1, .int 0])) [p, g, kn]) qs ms := Paired.mapP dr2 fun b m e => ⟨e.1.keep0 kk, e.2⟩
      have cd2 : Paired (CdS K (upd H2 lk (.lst [.int 0, .int 1, .int 0])) [p, g, kn]) cs ms := Paired.mapP cd2 fun b m e => by
        obtain ⟨lr, lh, C, n⟩ := e
        exact ⟨lr, lh, C.keep kk, n⟩
      have hlp2 := kk _ _ hlp2 (by simp)
      have hc2 := kk _ _ hc2 (by simp)
      generalize upd H2 lk (.lst [.int 0, .int 1, .int 0]) = H2 at hlk2 dr2 cd2 hlp2 hc2 ⊢
      clear kk nlk P
      refine go_forM V.int (ms := [0, 1, 0]) (sqL hlk2) (fun pre σ' H3 => ∃ x5 x9 x10 x11 x12 x13 : Option V, σ' = [some (V.ref a), some (V.ref p), some (V.ref kn), some (V.ref lp), some (V.ref lc), x5, x6, x7, x8, x9, x10, x11, x12, x13] ∧ Keep [] H2 H3 ∧ H3 lk = some (.lst (([0, 1, 0] : List Int).map V.int))) ⟨x5, none, none, none, none, none, rfl, Keep.refl, hlk2⟩ (fun pre σ' H3 z => ?_) (fun pre kk post σ' H3 e z => ?_) (fun σ' H3 z => ?_)
      · obtain ⟨_, _, _, _, _, _, _, _, h⟩ := z
        exact sqL h
      · obtain ⟨x5, x9, x10, x11, x12, x13, rfl, k3, hlk⟩ := z
        have hkk : kk = 0 ∨ kk = 1 := by
          have : kk ∈ ([0, 1, 0] : List Int) := by rw [e]; simp
          simp at this
          omega
        obtain ⟨kn', rfl, hk2⟩ : ∃ n : Nat, kk = (n : Int) ∧ n < ms.length := by
          rcases hkk with rfl | rfl
          · exact ⟨0, rfl, by omega⟩
          · exact ⟨1, rfl, by omega⟩
        have em : ms[kn']? = some ms[kn'] := List.getElem?_eq_getElem hk2
        have hkq : kn' < qs.length := by rw [Paired.length dr2]; exact hk2
        have hkc : kn' < cs.length := by rw [Paired.length cd2]; exact hk2
        have eq : qs[kn']? = some qs[kn'] := List.getElem?_eq_getElem hkq
        have ec : cs[kn']? = some cs[kn'] := List.getElem?_eq_getElem hkc
        obtain ⟨m1, em1, hdr⟩ := Rf.Paired.get dr2 eq
        obtain ⟨m2, em2, hcd⟩ := Rf.Paired.get cd2 ec
        rw [em] at em1 em2
        cases em1; cases em2
        generalize ms[kn'] = m at em hdr hcd
        generalize qs[kn'] = q1 at eq hdr
        generalize cs[kn'] = c1 at ec hcd
        have okD := okm m (List.mem_of_getElem? em)
        obtain ⟨lr, lh, C, _⟩ := hcd
        have dq := hdr.1
        have r1 := okD.r1
        have r2 := okD.r2
        clear hdr hkq hkc hk2 hkk e
        refine go_gName ?_
        walk_at "stm"
        walk_at "stm"
        walk_at "ex"
        refine go_ixL (sqL (k3 _ _ hc2 (by simp))) (ref_at ec) ?_
        walk_at "go"
        refine go_ixL (sqL (k3 _ _ hlp2 (by simp))) (ref_at eq) ?_
        walk_at "stm"
        walk_at "stm"
        walk_at "ex"
        have dq3 := dq.keep0 k3
        refine go_ixL (sqL dq3.at_) rfl ?_
        obtain ⟨ras, hra, hrp⟩ := dq3.rows
        walk_at "ex"
        rw [List.length_map, Paired.length hrp]
        refine ⟨_, rfl, by omega, by omega, ?_⟩
        rw [Int.toNat_natCast]
        refine go_forR (fun i σ' H4 => ∃ x11 : Option V, σ' = [some (V.ref a), some (V.ref p), some (V.ref kn), some (V.ref lp), some (V.ref lc), some (V.ref q1), x6, x7, x8, some (V.int (kn' : Nat)), some (V.ref c1), x11, x12, x13] ∧ Keep [] H2 H4) ⟨x11, rfl, k3⟩ (fun i σ' H4 hi z => ?_) (fun σ' H4 z => ?_)
        · obtain ⟨x11, rfl, k4⟩ := z
          have ei : m.2.2.rows[i]? = some m.2.2.rows[i] := List.getElem?_eq_getElem hi
          have oki := okD.row ei
          generalize m.2.2.rows[i] = ins at ei oki
          have dq4 := dq.keep0 k4
          obtain ⟨ras4, b4, hra4, hat4, hr4⟩ := rowsAt_get dq4.rows ei
          refine go_gName ?_
          walk_at "stm"
          refine go_ifS ?_
          walk_at "ex"
          refine go_ixL (sqL dq4.at_) rfl ?_
          walk_at "ex"
          rw [Int.zero_add]
          refine go_ixL (sqL hra4) hat4 ?_
          walk_at "ex"
          refine go_ixL (sqL dq4.at_) rfl ?_
          refine ⟨b4, ins, _, _, rfl, hr4, oki, okD.s1, okD.s2, fun H5 k5 => ?_⟩
          have C5 := C.keep (k4.trans k5)
          walk_at "go"
          refine ⟨c1, lr, lh, _, m.2.2, i, ins, rfl, C5, ei, oki, fun H6 l6 k6 n6 h6 => ?_⟩
          have dq6 := dq.keep0 ((k4.trans k5).trans k6)
          walk_at "go"
          refine go_ixL (sqL dq6.at_) rfl ?_
          walk_at "go"
          refine ⟨_, m.2.2.rows, i, ins, rfl, dq6.rows, ei, ⟨_, _, oki⟩, fun H7 l7 k7 n7 h7 => ?_⟩
          walk_at "go"
          have lle := later_le ins i
          refine ⟨_, _, _, rfl, dp_ints (k7 _ _ h6 (by simp)), dp_ints h7, (ints_gd (by omega)).1, (ints_gd (by omega)).2, fun H8 k8 => ?_⟩
          have k28 := ((((k4.trans k5).trans k6).trans k7).trans k8)
          have C8 := C.keep k28
          have dq8 := dq.keep0 k28
          walk_at "go"
          refine ⟨c1, lr, lh, _, m.2.2, _, rfl, C8, fun v hv => ?_⟩
          walk_at "go"
          refine go_ixL (sqL dq8.at_) rfl ?_
          walk_at "go"
          refine ⟨_, m.2.2.hs, _, rfl, dq8.hs, fun u hu => ?_⟩
          walk_at "go"
          obtain ⟨d1, y1, y2, y3, y4⟩ := hv.dp
          obtain ⟨d2, w1, w2, w3, w4⟩ := hu.dp
          have ed : d2 = d1 := by rw [y4, w4]
          subst ed
          refine ⟨_, _, d2, rfl, y1, w1, y2, y3, fun H9 k9 => ?_⟩
          walk_at "go"
          exact ⟨_, rfl, k28.trans k9⟩
        · obtain ⟨x11, rfl, k4⟩ := z
          have C4 := C.keep k4
          have dq4 := dq.keep0 k4
          walk_at "go"
          refine ⟨c1, lr, lh, _, m.2.2, rfl, C4, okD, fun H5 l5 k5 n5 h5 => ?_⟩
          have dq5 := dq4.keep0 k5
          walk_at "go"
          refine go_ixL (sqL dq5.at_) rfl ?_
          walk_at "go"
          refine ⟨_, m.2.2.rows, _, _, rfl, dq5.rows, okD.rows, r2, fun H6 l6 k6 n6 h6 => ?_⟩
          walk_at "go"
          have lh1 : (headsOf m.2.2.rows).length ≤ 30 := by
            unfold headsOf
            rw [List.length_map]
            have := List.length_filter_le (fun p => (m.2.2.rows.drop p).any (jumps (p : Int))) (List.range m.2.2.rows.length)
            rw [List.length_range] at this
            omega
          refine ⟨_, _, _, rfl, dp_ints (k6 _ _ h5 (by simp)), dp_ints h6, (ints_gd (by omega)).1, (ints_gd (by omega)).2, fun H7 k7 => ?_⟩
          have k27 := ((k4.trans k5).trans k6).trans k7
          walk_at "go"
          refine ⟨c1, lr, lh, _, m.2.2, rfl, C.keep k27, fun H8 t8 k8 ht8 => ?_⟩
          have dq8 := dq.keep0 (k27.trans k8)
          walk_at "go"
          refine go_ixL (sqL dq8.at_) rfl ?_
          walk_at "ex"
          refine go_ixL (sqL dq8.at_) rfl ?_
          walk_at "ex"
          refine go_ixL (sqL dq8.at_) rfl ?_
          walk_at "ex"
          refine go_ixL (sqL dq8.at_) rfl ?_
          walk_at "ex"
          obtain ⟨ras8, hra8, hrp8⟩ := dq8.rows
          obtain ⟨has8, hha8, hhp8⟩ := dq8.hs
          refine go_tupL (sqL hra8) (fun l1 n1 => ?_)
          walk_at "ex"
          refine go_ixL (sqL_upd (sqL dq8.at_) n1) rfl ?_
          walk_at "ex"
          refine go_tupL (sqL_upd (sqL hha8) n1) (fun l2 n2 => ?_)
          walk_at "ex"
          rename_i l3 n3
          have n12 : l1 ≠ l2 := fun e => by rw [← e, upd_same] at n2; cases n2
          generalize hH9 : upd (upd (upd H8 l1 _) l2 _) l3 _ = H9
          have k9 : Keep [] H8 H9 := by subst hH9; walk_at "keep"
          have e3 : H9 l3 = some (.tup [.str m.2.2.nm, .int m.2.2.pa, .int m.2.2.sz, .ref l1, .ref l2]) := by subst hH9; exact upd_same
          have e1 : H9 l1 = some (.tup (ras8.map V.ref)) := by
            subst hH9
            exact Keep.new (S := []) n3 _ _ (by rw [upd_ne n12, upd_same]) (by simp)
          have e2 : H9 l2 = some (.tup (has8.map V.ref)) := by
            subst hH9
            exact Keep.new (S := []) n3 _ _ upd_same (by simp)
          clear hH9 n1 n2 n3
          have tD : ToldAt K H9 l3 m.2.2 := ⟨l1, l2, e3, ⟨ras8, e1, Paired.mapP hrp8 fun a i e => e.keep k9 noT_nil⟩, ⟨has8, e2, Paired.mapP hhp8 fun a i e => sqT_keep k9 noT_nil e⟩⟩
          have tg := told_gd okD
          refine ⟨_, _, _, rfl, (ht8.keep k9).dp, tD.dp, tg.1, tg.2, fun H10 k10 => ?_⟩
          have ht10 := (ht8.keep k9).keep k10
          have k210 := ((k27.trans k8).trans k9).trans k10
          walk_at "go"
          refine ⟨t8, m.2.2, rfl, ht10, fun H11 x11 xr xh k11 CX11 => ?_⟩
          walk_at "go"
          have k211 := k210.trans k11
          refine ⟨x11, xr, xh, q1, m.1, m.2.1, _, m.2.2, rfl, CX11, dq.keep0 k211, okD, fun H12 k12 => ?_⟩
          have k212 := k211.trans k12
          walk_at "go"
          refine ⟨c1, lr, lh, q1, m.1, m.2.1, _, m.2.2, rfl, C.keep k212, dq.keep0 k212, okD, fun H13 k13 => ?_⟩
          have k213 := k212.trans k13
          walk_at "go"
          refine ⟨x11, xr, xh, _, m.2.2, rfl, (CX11.keep k12).keep k13, fun H14 t14 k14 ht14 => ?_⟩
          walk_at "go"
          refine go_neD ht14.dp ((((ht10.keep k11).keep k12).keep k13).keep k14).dp tg.1 (by have := tg.2; omega) ?_
          walk_at "go"
          have k214 := k213.trans k14
          exact ⟨_, _, _, _, _, _, rfl, k214, k214 _ _ hlk2 (by simp)⟩
      · obtain ⟨_, _, _, _, _, _, rfl, _⟩ := z
        walk_at "go"
        exact q _
theorem law_start (K : PySem.W.Frag) (H : Hp) (a : Addr) (ns : List Int) (hl : ns.length ≤ 63) (hO : Only H) (hS : SqL K H a (ns.map V.int)) : sp_law K [.ref a] H (fun v _ => v = .bl true) fun _ _ _ => False :=
  ⟨a, ns, rfl, hS, hl, fun _ => rfl⟩
end LW
end
section
namespace LW
open PySem PySem.Spec PyProof.Rows L2 Rf
section
variable {P : Program} {w : World} {K : PySem.W.Frag} {mg : Str → Option Value} {base : Heap} {A : Adr}
theorem wk_handler_at (T : Txt K w mg A)
    (len : ∀ vs H Q E, sp_handler_at K vs H Q E → vs.length = 2) (rd : ∀ vs H Q E, sp_handler_at K vs H Q E → t_handler_at K w A { nx := fun _ H' => Q .non H', rt := Q } (start n_handler_at vs) H) :
    FnOk P w K mg base CX0 1 A.a_handler_at A.d_handler_at ["code", "pc"] (sp_handler_at K) := by
  refine T.F_handler_at.ok sc_handler_at len (fun cdv Ar outer s H vs Q E hr h => ⟨t_handler_at K w A, ?_, rd vs H Q E h⟩)
  exact (pss_cons (ps_for PassesOwn.never rfl (pi_list (pe_fld (pv 0) rfl)) (pg_name (i := 2) sc_handler_at.nd rfl (Or.inl rfl))
 (pss_one (ps_if (pt_chain op_le op_lt (pe_ix ix_tup (pv 2) pe_int (fun _ _ => rfl)) (pv 1) (pe_ix ix_tup (pv 2) pe_int (fun _ _ => rfl)))
 (pss_one (ps_ret (pv 2)))
 pss_nil)))
 (pss_one (ps_ret pe_non)))
theorem wk_slots_read (T : Txt K w mg A)
    (len : ∀ vs H Q E, sp_slots_read K vs H Q E → vs.length = 1) (rd : ∀ vs H Q E, sp_slots_read K vs H Q E → t_slots_read K w A { nx := fun _ H' => Q .non H', rt := Q } (start n_slots_read vs) H) :
    FnOk P w K mg base CX0 1 A.a_slots_read A.d_slots_read ["row"] (sp_slots_read K) := by
  refine T.F_slots_read.ok sc_slots_read len (fun cdv Ar outer s H vs Q E hr h => ⟨t_slots_read K w A, ?_, rd vs H Q E h⟩)
  exact (pss_cons (ps_setLc (i := 1) (own := [("index", 2)]) (g := (gName 2)) (tt := tYes) rfl sc_slots_read.nd rfl rfl (sw_true rfl rfl rfl (by decide +kernel)) (pi_tup (pe_ix ix_W (pe_glob rfl T.g_READS rfl) (pe_ix ix_tup (pv 0) pe_int (fun _ _ => rfl)) (fun _ _ => rfl))) (blkOk_by (own := [("index", 2)]) (N := n_slots_read) (sc := defScope s_slots_read) (by decide +kernel)) (fun _ _ _ _ _ => (pg_name (i := 2) sc_slots_read.nd rfl (Or.inl rfl))) (fun _ _ _ _ _ => pts_nil) (fun _ _ _ _ _ => (pe_ix ix_tup (pv 0) (pv 2) (fun _ _ => rfl))))
 (pss_cons (ps_if (pt_cmpR op_inW (pe_ix ix_tup (pv 0) pe_int (fun _ _ => rfl)) (pe_glob rfl T.g_LISTS rfl) rfl)
 (pss_one (ps_expr (pe_bm PySem.F.plainAttrs_list PySem.F.slot_list_extend PySem.F.type_list_extend mt_extT (pv 1) (pa_cons (pe_ix ix_tup (pv 0) (pe_ix ix_W (pe_glob rfl T.g_LISTS rfl) (pe_ix ix_tup (pv 0) pe_int (fun _ _ => rfl)) (fun _ _ => rfl)) (fun _ _ => rfl)) pa_nil))))
 pss_nil)
 (pss_one (ps_ret (pv 1)))))
theorem wk_uses (T : Txt K w mg A)
    (G_slots_read : FnOk P w K mg base CX0 1 A.a_slots_read A.d_slots_read ["row"] (sp_slots_read K))
    (len : ∀ vs H Q E, sp_uses K vs H Q E → vs.length = 1) (rd : ∀ vs H Q E, sp_uses K vs H Q E → t_uses K w A { nx := fun _ H' => Q .non H', rt := Q } (start n_uses vs) H) :
    FnOk P w K mg base CX0 2 A.a_uses A.d_uses ["row"] (sp_uses K) := by
  refine T.F_uses.ok sc_uses len (fun cdv Ar outer s H vs Q E hr h => ⟨t_uses K w A, ?_, rd vs H Q E h⟩)
  exact (pss_one (ps_ret (pe_callB (cr_sortedSet rfl) (by rfl) T.n_sorted (by decide +kernel) (pa_cons (pe_callTy (cr_setL rfl) (by rfl) T.n_set (by decide +kernel) (pa_cons (pe_call G_slots_read (hr.mono (by decide)) rfl T.g_slots_read T.F_slots_read.kp T.b_slots_read .nil pass0 (pa_cons (pv 0) pa_nil)) pa_nil)) pa_nil))))
theorem wk_target (T : Txt K w mg A)
    (len : ∀ vs H Q E, sp_target K vs H Q E → vs.length = 1) (rd : ∀ vs H Q E, sp_target K vs H Q E → t_target K w A { nx := fun _ H' => Q .non H', rt := Q } (start n_target vs) H) :
    FnOk P w K mg base CX0 1 A.a_target A.d_target ["row"] (sp_target K) := by
  refine T.F_target.ok sc_target len (fun cdv Ar outer s H vs Q E hr h => ⟨t_target K w A, ?_, rd vs H Q E h⟩)
  exact (pss_cons (ps_set (i := 1) sc_target.nd rfl (Or.inl rfl) (pe_getW (pe_glob rfl T.g_WRITES rfl) (pe_ix ix_tup (pv 0) pe_int (fun _ _ => rfl)) ⟨rfl, rfl, rfl, rfl⟩))
 (pss_cons (ps_if (pt_cmpR op_isN (pv 1) pe_non (nomark _))
 (pss_one (ps_ret pe_non))
 pss_nil)
 (pss_one (ps_ret (pe_ix ix_tup (pv 0) (pv 1) (fun _ _ => rfl))))))
theorem wk_following (T : Txt K w mg A)
    (len : ∀ vs H Q E, sp_following K vs H Q E → vs.length = 2) (rd : ∀ vs H Q E, sp_following K vs H Q E → t_following K w A { nx := fun _ H' => Q .non H', rt := Q } (start n_following vs) H) :
    FnOk P w K mg base CX0 1 A.a_following A.d_following ["code", "pc"] (sp_following K) := by
  refine okC T.F_following sc_following len (fun cdv Ar outer s H vs Q E hcd hr h => ⟨t_following K w A, ?_, rd vs H Q E h⟩)
  exact (pss_cons (ps_set (i := 2) sc_following.nd rfl (Or.inl rfl) (pe_ix ix_list (pe_fld (pv 0) rfl) (pv 1) (fun _ _ => rfl)))
 (pss_cons (ps_if (pt_cmpR op_in_seq (pe_ix ix_tup (pv 2) pe_int (fun _ _ => rfl)) (pe_tup (pa_cons pe_str (pa_cons pe_str pa_nil))) rfl)
 (pss_one (ps_ret (pe_lst pa_nil)))
 pss_nil)
 (pss_cons (ps_if (pt_cmpR op_eq (pe_ix ix_tup (pv 2) pe_int (fun _ _ => rfl)) pe_str (nomark _))
 (pss_one (ps_ret (pe_lst (pa_cons (pe_ix ix_tup (pv 2) pe_int (fun _ _ => rfl)) pa_nil))))
 pss_nil)
 (pss_cons (ps_if (pt_cmpR op_eq (pe_ix ix_tup (pv 2) pe_int (fun _ _ => rfl)) pe_str (nomark _))
 (pss_one (ps_ret (pe_callB (cr_sortedSet rfl) (by rfl) T.n_sorted (by decide +kernel) (pa_cons (pe_setI2 (pe_op op_add (pv 1) pe_int) (pe_ix ix_tup (pv 2) pe_int (fun _ _ => rfl)) hcd) pa_nil))))
 pss_nil)
 (pss_one (ps_ret (pe_lst (pa_cons (pe_op op_add (pv 1) pe_int) pa_nil))))))))
theorem wk_heads (T : Txt K w mg A)
    (len : ∀ vs H Q E, sp_heads K vs H Q E → vs.length = 1) (rd : ∀ vs H Q E, sp_heads K vs H Q E → t_heads K w A { nx := fun _ H' => Q .non H', rt := Q } (start n_heads vs) H) :
    FnOk P w K mg base CX0 1 A.a_heads A.d_heads ["code"] (sp_heads K) := by
  refine T.F_heads.ok sc_heads len (fun cdv Ar outer s H vs Q E hr h => ⟨t_heads K w A, ?_, rd vs H Q E h⟩)
  exact (pss_one (ps_ret (pe_callB (cr_sortedSet rfl) (by rfl) T.n_sorted (by decide +kernel) (pa_cons (pe_scI (own := [("pc", 1), ("row", 2)]) (g := (gTup K 2 (gCons (gName 1) (gCons (gName 2) gNil)))) (tt := (tAnd (tTest (tOp rEq (tOp (rIxT K) (tVar 2) (tC (.int 0))) (tC (.str "jump")))) (tTest (tOp rLeI (tOp (rIxT K) (tVar 2) (tC (.int 1))) (tVar 1))))) rfl sc_heads.nd (pi_enum rfl T.n_enumerate (pa_cons (pe_fld (pv 0) rfl) pa_nil)) (blkOk_by (own := [("pc", 1), ("row", 2)]) (N := n_heads) (sc := defScope s_heads) (by decide +kernel)) (fun _ _ _ _ _ => (pg_tup rfl (pgs_cons (pg_name (i := 1) sc_heads.nd rfl (Or.inl rfl)) (pgs_cons (pg_name (i := 2) sc_heads.nd rfl (Or.inl rfl)) pgs_nil)))) (fun _ _ _ _ _ => pts_one (PW.pt (pw_and (pt_cmpR op_eq (pe_ix ix_tup (pv 2) pe_int (fun _ _ => rfl)) pe_str (nomark _)) (pw_and1 (pt_cmpR op_le (pe_ix ix_tup (pv 2) pe_int (fun _ _ => rfl)) (pv 1) (nomark _)))))) (fun _ _ _ _ _ => (pe_ix ix_tup (pv 2) pe_int (fun _ _ => rfl)))) pa_nil))))
theorem wk_Code_init (T : Txt K w mg A)
    (len : ∀ vs H Q E, sp_Code_init K vs H Q E → vs.length = 6) (rd : ∀ vs H Q E, sp_Code_init K vs H Q E → t_Code_init K w A { nx := fun _ H' => Q .non H', rt := Q } (start n_Code_init vs) H) :
    FnOk P w K mg base CX0 1 A.a_Code_init A.d_Code_init ["self", "name", "params", "size", "rows", "handlers"] (sp_Code_init K) := by
  refine T.F_Code_init.ok sc_Code_init len (fun cdv Ar outer s H vs Q E hr h => ⟨t_Code_init K w A, ?_, rd vs H Q E h⟩)
  exact (pss_cons (ps_fld (pv 0) (pv 1) rfl)
 (pss_cons (ps_fld (pv 0) (pv 2) rfl)
 (pss_cons (ps_fld (pv 0) (pv 3) rfl)
 (pss_cons (ps_fld (pv 0) (pe_callTy call_list_of (by rfl) T.n_list (by decide +kernel) (pa_cons (pv 4) pa_nil)) rfl)
 (pss_cons (ps_fld (pv 0) (pe_callTy call_list_of (by rfl) T.n_list (by decide +kernel) (pa_cons (pv 5) pa_nil)) rfl)
 (pss_one (ps_fld (pv 0) pe_non rfl)))))))
theorem wk_told_code (T : Txt K w mg A)
    (len : ∀ vs H Q E, sp_told_code K vs H Q E → vs.length = 1) (rd : ∀ vs H Q E, sp_told_code K vs H Q E → t_told_code K w A { nx := fun _ H' => Q .non H', rt := Q } (start n_told_code vs) H) :
    FnOk P w K mg base CX0 1 A.a_told_code A.d_told_code ["code"] (sp_told_code K) := by
  refine T.F_told_code.ok sc_told_code len (fun cdv Ar outer s H vs Q E hr h => ⟨t_told_code K w A, ?_, rd vs H Q E h⟩)
  exact (pss_one (ps_ret (pe_tup (pa_cons (pe_fld (pv 0) rfl) (pa_cons (pe_fld (pv 0) rfl) (pa_cons (pe_fld (pv 0) rfl) (pa_cons (pe_callTy call_tuple_of (by rfl) T.n_tuple (by decide +kernel) (pa_cons (pe_fld (pv 0) rfl) pa_nil)) (pa_cons (pe_callTy call_tuple_of (by rfl) T.n_tuple (by decide +kernel) (pa_cons (pe_fld (pv 0) rfl) pa_nil)) pa_nil))))))))
theorem wk_code_of (T : Txt K w mg A)
    (G_Code_init : FnOk P w K mg base CX0 1 A.a_Code_init A.d_Code_init ["self", "name", "params", "size", "rows", "handlers"] (sp_Code_init K))
    (len : ∀ vs H Q E, sp_code_of K vs H Q E → vs.length = 1) (rd : ∀ vs H Q E, sp_code_of K vs H Q E → t_code_of K w A { nx := fun _ H' => Q .non H', rt := Q } (start n_code_of vs) H) :
    FnOk P w K mg base CX0 3 A.a_code_of A.d_code_of ["told"] (sp_code_of K) := by
  refine T.F_code_of.ok sc_code_of len (fun cdv Ar outer s H vs Q E hr h => ⟨t_code_of K w A, ?_, rd vs H Q E h⟩)
  exact (pss_cons (ps_asg (pv 0) (pg_tup rfl (pgs_cons (pg_name (i := 1) sc_code_of.nd rfl (Or.inl rfl)) (pgs_cons (pg_name (i := 2) sc_code_of.nd rfl (Or.inl rfl)) (pgs_cons (pg_name (i := 3) sc_code_of.nd rfl (Or.inl rfl)) (pgs_cons (pg_name (i := 4) sc_code_of.nd rfl (Or.inl rfl)) (pgs_cons (pg_name (i := 5) sc_code_of.nd rfl (Or.inl rfl)) pgs_nil)))))))
 (pss_one (ps_ret (pe_make T.m_Code G_Code_init (hr.mono (by decide)) rfl T.gc_Code T.b_Code_init .nil pass0 (pa_cons (pv 1) (pa_cons (pv 2) (pa_cons (pv 3) (pa_cons (pv 4) (pa_cons (pv 5) pa_nil)))))))))
theorem wk_law_box (T : Txt K w mg A)
    (len : ∀ vs H Q E, sp_law_box K vs H Q E → vs.length = 1) (rd : ∀ vs H Q E, sp_law_box K vs H Q E → t_law_box K w A { nx := fun _ H' => Q .non H', rt := Q } (start n_law_box vs) H) :
    FnOk P w K mg base CX0 1 A.a_law_box A.d_law_box ["script"] (sp_law_box K) := by
  refine T.F_law_box.ok sc_law_box len (fun cdv Ar outer s H vs Q E hr h => ⟨t_law_box K w A, ?_, rd vs H Q E h⟩)
  exact (pss_cons (ps_setLc (i := 1) (own := [("cell", 3)]) (g := (gName 3)) (tt := tYes) rfl sc_law_box.nd rfl rfl (sw_true rfl rfl rfl (by decide +kernel)) (pi_list (pe_slice sl_list (pv 0) po_none (po_some pe_int))) (blkOk_by (own := [("cell", 3)]) (N := n_law_box) (sc := defScope s_law_box) (by decide +kernel)) (fun _ _ _ _ _ => (pg_name (i := 3) sc_law_box.nd rfl (Or.inl rfl))) (fun _ _ _ _ _ => pts_nil) (fun _ _ _ _ _ => (pe_callTy call_int1 (by rfl) T.n_int (by decide +kernel) (pa_cons (pv 3) pa_nil))))
 (pss_cons (ps_setLc (i := 2) (own := [("cell", 3)]) (g := (gName 3)) (tt := (tTest (tOp rLtI (tVar 3) (tOp rPowI (tC (.int 10)) (tC (.int 18)))))) rfl sc_law_box.nd rfl rfl (sw_true rfl rfl rfl (by decide +kernel)) (pi_list (pv 1)) (blkOk_by (own := [("cell", 3)]) (N := n_law_box) (sc := defScope s_law_box) (by decide +kernel)) (fun _ _ _ _ _ => (pg_name (i := 3) sc_law_box.nd rfl (Or.inl rfl))) (fun _ _ _ _ _ => pts_one (pt_cmpR op_lt (pv 3) (pe_op op_pow pe_int pe_int) (nomark _))) (fun _ _ _ _ _ => (pe_op op_mod (pe_callTy call_int1 (by rfl) T.n_int (by decide +kernel) (pa_cons (pv 3) pa_nil)) pe_int)))
 (pss_one (ps_ret (pe_lst (pa_cons (pe_lc (own := [("cell", 3)]) (g := (gName 3)) (tt := (tTest (tOp rGeI (tVar 3) (tOp rPowI (tC (.int 10)) (tC (.int 18)))))) rfl sc_law_box.nd (pi_list (pv 1)) (blkOk_by (own := [("cell", 3)]) (N := n_law_box) (sc := defScope s_law_box) (by decide +kernel)) (fun _ _ _ _ _ => (pg_name (i := 3) sc_law_box.nd rfl (Or.inl rfl))) (fun _ _ _ _ _ => pts_one (pt_cmpR op_ge (pv 3) (pe_op op_pow pe_int pe_int) (nomark _))) (fun _ _ _ _ _ => (pv 3))) (pa_cons (pe_op op_cat (pe_lst (pa_cons (pe_op op_add (pe_callB call_len_seq (by rfl) T.n_len (by decide +kernel) (pa_cons (pv 1) pa_nil)) pe_int) pa_nil)) (pv 2)) (pa_cons pe_int (pa_cons pe_int pa_nil)))))))))
theorem wk_law_draw (T : Txt K w mg A)
    (len : ∀ vs H Q E, sp_law_draw K vs H Q E → vs.length = 2) (rd : ∀ vs H Q E, sp_law_draw K vs H Q E → t_law_draw K w A { nx := fun _ H' => Q .non H', rt := Q } (start n_law_draw vs) H) :
    FnOk P w K mg base CX0 1 A.a_law_draw A.d_law_draw ["box", "many"] (sp_law_draw K) := by
  refine T.F_law_draw.ok sc_law_draw len (fun cdv Ar outer s H vs Q E hr h => ⟨t_law_draw K w A, ?_, rd vs H Q E h⟩)
  exact (pss_cons (ps_set (i := 2) sc_law_draw.nd rfl (Or.inl rfl) (pe_ix ix_list (pv 0) pe_int (fun _ _ => rfl)))
 (pss_cons (ps_if (pt_truth (pv 2) (by intro _; rfl))
 (pss_cons (ps_set (i := 3) sc_law_draw.nd rfl (Or.inl rfl) (pe_bm PySem.F.plainAttrs_list PySem.F.slot_list_pop PySem.F.type_list_pop mt_popAt (pv 2) (pa_cons pe_int pa_nil)))
 (pss_cons (ps_if (pt_cmpR op_ge (pv 3) (pv 1) (nomark _))
 (pss_one (ps_expr (pe_bm PySem.F.plainAttrs_list PySem.F.slot_list_insert PySem.F.type_list_insert mt_insert (pv 2) (pa_cons pe_int (pa_cons (pe_op op_fdivW (pv 3) (pv 1)) pa_nil)))))
 pss_nil)
 (pss_one (ps_ret (pe_op op_mod (pe_callTy call_int1 (by rfl) T.n_int (by decide +kernel) (pa_cons (pv 3) pa_nil)) (pv 1))))))
 pss_nil)
 (pss_cons (ps_set (i := 4) sc_law_draw.nd rfl (Or.inl rfl) (pe_ix ix_list (pv 0) pe_int (fun _ _ => rfl)))
 (pss_cons (ps_asg (pe_op op_add (pe_ix ix_list (pv 0) pe_int (fun _ _ => rfl)) pe_int) (pg_sub (pv 0) pe_int set_list))
 (pss_cons (ps_set (i := 5) sc_law_draw.nd rfl (Or.inl rfl) (pe_ix ix_list (pv 4) (pe_op op_mod (pe_ix ix_list (pv 0) pe_int (fun _ _ => rfl)) (pe_callB call_len_seq (by rfl) T.n_len (by decide +kernel) (pa_cons (pv 4) pa_nil))) (fun _ _ => rfl)))
 (pss_cons (ps_asg (pe_op op_mod (pe_callTy call_int1 (by rfl) T.n_int (by decide +kernel) (pa_cons (pe_op op_add (pe_op op_add (pe_op op_mul (pe_ix ix_list (pv 0) pe_int (fun _ _ => rfl)) pe_int) (pv 5)) (pe_op op_mul (pe_ix ix_list (pv 0) pe_int (fun _ _ => rfl)) pe_int)) pa_nil)) pe_int) (pg_sub (pv 0) pe_int set_list))
 (pss_one (ps_ret (pe_op op_mod (pe_op op_mod (pe_callTy call_int1 (by rfl) T.n_int (by decide +kernel) (pa_cons (pe_op op_add (pe_op op_mul (pe_op op_fdiv (pe_ix ix_list (pv 0) pe_int (fun _ _ => rfl)) pe_int) pe_int) (pe_ix ix_list (pv 0) pe_int (fun _ _ => rfl))) pa_nil)) pe_int) (pv 1))))))))))
theorem wk_law_reserved (T : Txt K w mg A)
    (len : ∀ vs H Q E, sp_law_reserved K vs H Q E → vs.length = 0) (rd : ∀ vs H Q E, sp_law_reserved K vs H Q E → t_law_reserved K w A { nx := fun _ H' => Q .non H', rt := Q } (start n_law_reserved vs) H) :
    FnOk P w K mg base CX0 1 A.a_law_reserved A.d_law_reserved [] (sp_law_reserved K) := by
  refine T.F_law_reserved.ok sc_law_reserved len (fun cdv Ar outer s H vs Q E hr h => ⟨t_law_reserved K w A, ?_, rd vs H Q E h⟩)
  exact (pss_cons (ps_set (i := 0) sc_law_reserved.nd rfl (Or.inl rfl) (pe_lst (pa_cons pe_str (pa_cons pe_str (pa_cons pe_str (pa_cons pe_str (pa_cons pe_str (pa_cons pe_str (pa_cons pe_str (pa_cons pe_str (pa_cons pe_str (pa_cons pe_str (pa_cons pe_str (pa_cons pe_str pa_nil))))))))))))))
 (pss_one (ps_ret (pe_op op_cat (pv 0) (pe_lst (pa_cons pe_str (pa_cons pe_str (pa_cons pe_str (pa_cons pe_str (pa_cons pe_str (pa_cons pe_str (pa_cons pe_str (pa_cons pe_str (pa_cons pe_str pa_nil))))))))))))))
theorem wk_law_word (T : Txt K w mg A)
    (G_law_draw : FnOk P w K mg base CX0 1 A.a_law_draw A.d_law_draw ["box", "many"] (sp_law_draw K))
    (G_law_reserved : FnOk P w K mg base CX0 1 A.a_law_reserved A.d_law_reserved [] (sp_law_reserved K))
    (len : ∀ vs H Q E, sp_law_word K vs H Q E → vs.length = 2) (rd : ∀ vs H Q E, sp_law_word K vs H Q E → t_law_word K w A { nx := fun _ H' => Q .non H', rt := Q } (start n_law_word vs) H) :
    FnOk P w K mg base CX0 2 A.a_law_word A.d_law_word ["box", "known"] (sp_law_word K) := by
  refine T.F_law_word.ok sc_law_word len (fun cdv Ar outer s H vs Q E hr h => ⟨t_law_word K w A, ?_, rd vs H Q E h⟩)
  exact (pss_cons (ps_set (i := 2) sc_law_word.nd rfl (Or.inr rfl) pe_str)
 (pss_cons (ps_set (i := 3) sc_law_word.nd rfl (Or.inl rfl) (pe_call G_law_draw (hr.mono (by decide)) rfl T.g_law_draw T.F_law_draw.kp T.b_law_draw .nil pass0 (pa_cons (pv 0) (pa_cons pe_int pa_nil))))
 (pss_cons (ps_if (PW.pt (pw_and (pt_truth (pv 1) (by intro _; rfl)) (pw_and1 (pt_cmpR op_lt (pv 3) pe_int (nomark _)))))
 (pss_one (ps_ret (pe_ix ix_list (pv 1) (pe_call G_law_draw (hr.mono (by decide)) rfl T.g_law_draw T.F_law_draw.kp T.b_law_draw .nil pass0 (pa_cons (pv 0) (pa_cons (pe_callB call_len_seq (by rfl) T.n_len (by decide +kernel) (pa_cons (pv 1) pa_nil)) pa_nil))) (fun _ _ => rfl))))
 pss_nil)
 (pss_cons (ps_set (i := 4) sc_law_word.nd rfl (Or.inl rfl) (pe_op op_add pe_int (pe_call G_law_draw (hr.mono (by decide)) rfl T.g_law_draw T.F_law_draw.kp T.b_law_draw .nil pass0 (pa_cons (pv 0) (pa_cons pe_int pa_nil)))))
 (pss_cons (ps_set (i := 5) sc_law_word.nd rfl (Or.inl rfl) (pe_join pe_str (pe_lc (own := [("k", 7)]) (g := (gName 7)) (tt := tYes) rfl sc_law_word.nd (pi_range1 rfl T.n_range (pa_cons (pv 4) pa_nil)) (blkOk_by (own := [("k", 7)]) (N := n_law_word) (sc := defScope s_law_word) (by decide +kernel)) (fun _ _ _ _ _ => (pg_name (i := 7) sc_law_word.nd rfl (Or.inl rfl))) (fun _ _ _ _ _ => pts_nil) (fun _ _ _ _ _ => (pe_ix ix_str (pv 2) (pe_call G_law_draw (hr.mono (by decide)) rfl T.g_law_draw T.F_law_draw.kp T.b_law_draw .nil pass0 (pa_cons (pv 0) (pa_cons pe_int pa_nil))) (fun _ _ => rfl))))))
 (pss_cons (ps_if (PW.pt (pw_and (pt_truth (pv 1) (by intro _; rfl)) (pw_and1 (pt_cmpR op_eq (pv 3) pe_int (nomark _)))))
 (pss_cons (ps_set (i := 6) sc_law_word.nd rfl (Or.inl rfl) (pe_ix ix_list (pv 1) (pe_call G_law_draw (hr.mono (by decide)) rfl T.g_law_draw T.F_law_draw.kp T.b_law_draw .nil pass0 (pa_cons (pv 0) (pa_cons (pe_callB call_len_seq (by rfl) T.n_len (by decide +kernel) (pa_cons (pv 1) pa_nil)) pa_nil))) (fun _ _ => rfl)))
 (pss_one (ps_if (pt_cmpR op_lt (pe_callB call_len_str (by rfl) T.n_len (by decide +kernel) (pa_cons (pv 6) pa_nil)) pe_int (nomark _))
 (pss_one (ps_set (i := 5) sc_law_word.nd rfl (Or.inl rfl) (pe_op op_add_str (pv 6) (pe_ix ix_str (pv 5) pe_int (fun _ _ => rfl)))))
 pss_nil)))
 pss_nil)
 (pss_cons (ps_if (pt_cmpR op_eq (pv 3) pe_int (nomark _))
 (pss_one (ps_set (i := 5) sc_law_word.nd rfl (Or.inl rfl) (pe_op op_add_str (pe_ix ix_list (pe_call0 G_law_reserved (hr.mono (by decide)) rfl T.g_law_reserved T.F_law_reserved.kp T.b_law_reserved .nil pass0) (pe_call G_law_draw (hr.mono (by decide)) rfl T.g_law_draw T.F_law_draw.kp T.b_law_draw .nil pass0 (pa_cons (pv 0) (pa_cons pe_int pa_nil))) (fun _ _ => rfl)) (pe_ix ix_str (pv 5) pe_int (fun _ _ => rfl)))))
 pss_nil)
 (pss_cons (ps_if (pt_cmpR op_in_seq (pv 5) (pe_call0 G_law_reserved (hr.mono (by decide)) rfl T.g_law_reserved T.F_law_reserved.kp T.b_law_reserved .nil pass0) rfl)
 (pss_one (ps_set (i := 5) sc_law_word.nd rfl (Or.inl rfl) (pe_op op_add_str (pv 5) pe_str)))
 pss_nil)
 (pss_cons (ps_if (PW.pt (pw_and (pt_cmpR op_lt (pe_callB call_len_seq (by rfl) T.n_len (by decide +kernel) (pa_cons (pv 1) pa_nil)) pe_int (nomark _)) (pw_and1 (pt_cmpR op_notIn_seq (pv 5) (pv 1) rfl))))
 (pss_one (ps_expr (pe_bm PySem.F.plainAttrs_list PySem.F.slot_list_append PySem.F.type_list_append mt_append (pv 1) (pa_cons (pv 5) pa_nil))))
 pss_nil)
 (pss_one (ps_ret (pv 5))))))))))))
theorem wk_law_value (T : Txt K w mg A)
    (G_law_draw : FnOk P w K mg base CX0 1 A.a_law_draw A.d_law_draw ["box", "many"] (sp_law_draw K))
    (G_law_word : FnOk P w K mg base CX0 2 A.a_law_word A.d_law_word ["box", "known"] (sp_law_word K))
    (len : ∀ vs H Q E, sp_law_value K vs H Q E → vs.length = 2) (rd : ∀ vs H Q E, sp_law_value K vs H Q E → t_law_value K w A { nx := fun _ H' => Q .non H', rt := Q } (start n_law_value vs) H) :
    FnOk P w K mg base CX0 3 A.a_law_value A.d_law_value ["box", "known"] (sp_law_value K) := by
  refine T.F_law_value.ok sc_law_value len (fun cdv Ar outer s H vs Q E hr h => ⟨t_law_value K w A, ?_, rd vs H Q E h⟩)
  exact (pss_cons (ps_set (i := 2) sc_law_value.nd rfl (Or.inl rfl) (pe_call G_law_draw (hr.mono (by decide)) rfl T.g_law_draw T.F_law_draw.kp T.b_law_draw .nil pass0 (pa_cons (pv 0) (pa_cons pe_int pa_nil))))
 (pss_cons (ps_if (pt_cmpR op_eq (pv 2) pe_int (nomark _))
 (pss_one (ps_ret pe_non))
 pss_nil)
 (pss_cons (ps_if (pt_cmpR op_eq (pv 2) pe_int (nomark _))
 (pss_one (ps_ret (pe_tup (pa_cons pe_str (pa_cons (pe_call G_law_word (hr.mono (by decide)) rfl T.g_law_word T.F_law_word.kp T.b_law_word .nil pass0 (pa_cons (pv 0) (pa_cons (pv 1) pa_nil))) pa_nil)))))
 pss_nil)
 (pss_cons (ps_if (pt_cmpR op_eq (pv 2) pe_int (nomark _))
 (pss_one (ps_ret (pe_ix ix_list (pe_lst (pa_cons pe_str (pa_cons pe_str (pa_cons pe_str (pa_cons (pe_op op_mulS pe_str pe_int) pa_nil))))) (pe_call G_law_draw (hr.mono (by decide)) rfl T.g_law_draw T.F_law_draw.kp T.b_law_draw .nil pass0 (pa_cons (pv 0) (pa_cons pe_int pa_nil))) (fun _ _ => rfl))))
 pss_nil)
 (pss_one (ps_ret (pe_call G_law_draw (hr.mono (by decide)) rfl T.g_law_draw T.F_law_draw.kp T.b_law_draw .nil pass0 (pa_cons (pv 0) (pa_cons (pe_op op_pow pe_int pe_int) pa_nil)))))))))
theorem wk_law_row (T : Txt K w mg A)
    (G_law_draw : FnOk P w K mg base CX0 1 A.a_law_draw A.d_law_draw ["box", "many"] (sp_law_draw K))
    (G_law_word : FnOk P w K mg base CX0 2 A.a_law_word A.d_law_word ["box", "known"] (sp_law_word K))
    (G_law_value : FnOk P w K mg base CX0 3 A.a_law_value A.d_law_value ["box", "known"] (sp_law_value K))
    (len : ∀ vs H Q E, sp_law_row K vs H Q E → vs.length = 5) (rd : ∀ vs H Q E, sp_law_row K vs H Q E → t_law_row K w A { nx := fun _ H' => Q .non H', rt := Q } (start n_law_row vs) H) :
    FnOk P w K mg base CX0 4 A.a_law_row A.d_law_row ["box", "word", "many", "size", "known"] (sp_law_row K) := by
  refine T.F_law_row.ok sc_law_row len (fun cdv Ar outer s H vs Q E hr h => ⟨t_law_row K w A, ?_, rd vs H Q E h⟩)
  exact (pss_cons (ps_set (i := 5) sc_law_row.nd rfl (Or.inl rfl) (pe_call G_law_draw (hr.mono (by decide)) rfl T.g_law_draw T.F_law_draw.kp T.b_law_draw .nil pass0 (pa_cons (pv 0) (pa_cons (pv 3) pa_nil))))
 (pss_cons (ps_set (i := 6) sc_law_row.nd rfl (Or.inl rfl) (pe_call G_law_draw (hr.mono (by decide)) rfl T.g_law_draw T.F_law_draw.kp T.b_law_draw .nil pass0 (pa_cons (pv 0) (pa_cons (pv 3) pa_nil))))
 (pss_cons (ps_set (i := 7) sc_law_row.nd rfl (Or.inl rfl) (pe_call G_law_draw (hr.mono (by decide)) rfl T.g_law_draw T.F_law_draw.kp T.b_law_draw .nil pass0 (pa_cons (pv 0) (pa_cons (pv 3) pa_nil))))
 (pss_cons (ps_set (i := 8) sc_law_row.nd rfl (Or.inl rfl) (pe_call G_law_word (hr.mono (by decide)) rfl T.g_law_word T.F_law_word.kp T.b_law_word .nil pass0 (pa_cons (pv 0) (pa_cons (pv 4) pa_nil))))
 (pss_cons (ps_set (i := 9) sc_law_row.nd rfl (Or.inl rfl) (pe_callTy call_tuple_of (by rfl) T.n_tuple (by decide +kernel) (pa_cons (pe_lc (own := [("k", 11)]) (g := (gName 11)) (tt := tYes) rfl sc_law_row.nd (pi_range1 rfl T.n_range (pa_cons (pe_ix ix_list (pe_lst (pa_cons pe_int (pa_cons pe_int (pa_cons pe_int (pa_cons pe_int (pa_cons pe_int pa_nil)))))) (pe_call G_law_draw (hr.mono (by decide)) rfl T.g_law_draw T.F_law_draw.kp T.b_law_draw .nil pass0 (pa_cons (pv 0) (pa_cons pe_int pa_nil))) (fun _ _ => rfl)) pa_nil)) (blkOk_by (own := [("k", 11)]) (N := n_law_row) (sc := defScope s_law_row) (by decide +kernel)) (fun _ _ _ _ _ => (pg_name (i := 11) sc_law_row.nd rfl (Or.inl rfl))) (fun _ _ _ _ _ => pts_nil) (fun _ _ _ _ _ => (pe_call G_law_draw (hr.mono (by decide)) rfl T.g_law_draw T.F_law_draw.kp T.b_law_draw .nil pass0 (pa_cons (pv 0) (pa_cons (pv 3) pa_nil))))) pa_nil)))
 (pss_cons (ps_if (pt_cmpR op_eq (pv 1) pe_str (nomark _))
 (pss_one (ps_ret (pe_tup (pa_cons pe_str (pa_cons (pv 5) (pa_cons (pe_call G_law_value (hr.mono (by decide)) rfl T.g_law_value T.F_law_value.kp T.b_law_value .nil pass0 (pa_cons (pv 0) (pa_cons (pv 4) pa_nil))) pa_nil))))))
 pss_nil)
 (pss_cons (ps_if (pt_cmpR op_in_seq (pv 1) (pe_lst (pa_cons pe_str (pa_cons pe_str (pa_cons pe_str (pa_cons pe_str pa_nil))))) rfl)
 (pss_one (ps_ret (pe_tup (pa_cons (pv 1) (pa_cons (pv 5) (pa_cons (pv 6) pa_nil))))))
 pss_nil)
 (pss_cons (ps_if (pt_cmpR op_eq (pv 1) pe_str (nomark _))
 (pss_cons (ps_set (i := 10) sc_law_row.nd rfl (Or.inl rfl) (pe_lst (pa_cons pe_str (pa_cons pe_str (pa_cons pe_str (pa_cons pe_str (pa_cons pe_str (pa_cons pe_str (pa_cons pe_str (pa_cons pe_str pa_nil))))))))))
 (pss_one (ps_ret (pe_tup (pa_cons pe_str (pa_cons (pe_ix ix_list (pv 10) (pe_call G_law_draw (hr.mono (by decide)) rfl T.g_law_draw T.F_law_draw.kp T.b_law_draw .nil pass0 (pa_cons (pv 0) (pa_cons pe_int pa_nil))) (fun _ _ => rfl)) (pa_cons (pv 5) (pa_cons (pv 6) (pa_cons (pv 7) pa_nil)))))))))
 pss_nil)
 (pss_cons (ps_if (pt_cmpR op_eq (pv 1) pe_str (nomark _))
 (pss_one (ps_ret (pe_tup (pa_cons pe_str (pa_cons (pe_call G_law_draw (hr.mono (by decide)) rfl T.g_law_draw T.F_law_draw.kp T.b_law_draw .nil pass0 (pa_cons (pv 0) (pa_cons (pv 2) pa_nil))) pa_nil)))))
 pss_nil)
 (pss_cons (ps_if (pt_cmpR op_eq (pv 1) pe_str (nomark _))
 (pss_one (ps_ret (pe_tup (pa_cons pe_str (pa_cons (pv 5) (pa_cons (pe_call G_law_draw (hr.mono (by decide)) rfl T.g_law_draw T.F_law_draw.kp T.b_law_draw .nil pass0 (pa_cons (pv 0) (pa_cons (pv 2) pa_nil))) pa_nil))))))
 pss_nil)
 (pss_cons (ps_if (pt_cmpR op_in_seq (pv 1) (pe_lst (pa_cons pe_str (pa_cons pe_str (pa_cons pe_str pa_nil)))) rfl)
 (pss_one (ps_ret (pe_tup (pa_cons (pv 1) (pa_cons (pv 5) (pa_cons (pv 8) pa_nil))))))
 pss_nil)
 (pss_cons (ps_if (pt_cmpR op_eq (pv 1) pe_str (nomark _))
 (pss_one (ps_ret (pe_tup (pa_cons pe_str (pa_cons (pv 8) (pa_cons (pv 5) pa_nil))))))
 pss_nil)
 (pss_cons (ps_if (pt_cmpR op_eq (pv 1) pe_str (nomark _))
 (pss_one (ps_ret (pe_tup (pa_cons pe_str (pa_cons (pv 5) (pa_cons (pv 6) (pa_cons (pv 8) pa_nil)))))))
 pss_nil)
 (pss_cons (ps_if (pt_cmpR op_eq (pv 1) pe_str (nomark _))
 (pss_one (ps_ret (pe_tup (pa_cons pe_str (pa_cons (pv 5) (pa_cons (pv 8) (pa_cons (pv 6) pa_nil)))))))
 pss_nil)
 (pss_cons (ps_if (pt_cmpR op_in_seq (pv 1) (pe_lst (pa_cons pe_str (pa_cons pe_str pa_nil))) rfl)
 (pss_one (ps_ret (pe_tup (pa_cons (pv 1) (pa_cons (pv 5) (pa_cons (pv 6) (pa_cons (pv 7) pa_nil)))))))
 pss_nil)
 (pss_cons (ps_if (pt_cmpR op_eq (pv 1) pe_str (nomark _))
 (pss_one (ps_ret (pe_tup (pa_cons pe_str (pa_cons (pv 5) (pa_cons (pv 8) (pa_cons (pv 9) pa_nil)))))))
 pss_nil)
 (pss_cons (ps_if (pt_cmpR op_eq (pv 1) pe_str (nomark _))
 (pss_one (ps_ret (pe_tup (pa_cons pe_str (pa_cons (pv 5) (pa_cons (pv 6) (pa_cons (pv 9) pa_nil)))))))
 pss_nil)
 (pss_cons (ps_if (pt_cmpR op_eq (pv 1) pe_str (nomark _))
 (pss_one (ps_ret (pe_tup (pa_cons pe_str (pa_cons (pv 5) (pa_cons (pv 6) (pa_cons (pv 8) (pa_cons (pv 9) pa_nil))))))))
 pss_nil)
 (pss_cons (ps_if (pt_cmpR op_eq (pv 1) pe_str (nomark _))
 (pss_one (ps_ret (pe_tup (pa_cons pe_str (pa_cons (pv 8) (pa_cons (pv 9) pa_nil))))))
 pss_nil)
 (pss_cons (ps_if (pt_cmpR op_eq (pv 1) pe_str (nomark _))
 (pss_one (ps_ret (pe_tup (pa_cons pe_str pa_nil))))
 pss_nil)
 (pss_one (ps_ret (pe_tup (pa_cons (pv 1) (pa_cons (pv 5) pa_nil)))))))))))))))))))))))))
theorem wk_law_words (T : Txt K w mg A)
    (len : ∀ vs H Q E, sp_law_words K vs H Q E → vs.length = 0) (rd : ∀ vs H Q E, sp_law_words K vs H Q E → t_law_words K w A { nx := fun _ H' => Q .non H', rt := Q } (start n_law_words vs) H) :
    FnOk P w K mg base CX0 1 A.a_law_words A.d_law_words [] (sp_law_words K) := by
  refine T.F_law_words.ok sc_law_words len (fun cdv Ar outer s H vs Q E hr h => ⟨t_law_words K w A, ?_, rd vs H Q E h⟩)
  exact (pss_cons (ps_set (i := 0) sc_law_words.nd rfl (Or.inl rfl) (pe_lst (pa_cons pe_str (pa_cons pe_str (pa_cons pe_str (pa_cons pe_str (pa_cons pe_str (pa_cons pe_str (pa_cons pe_str (pa_cons pe_str (pa_cons pe_str (pa_cons pe_str (pa_cons pe_str (pa_cons pe_str pa_nil))))))))))))))
 (pss_cons (ps_set (i := 0) sc_law_words.nd rfl (Or.inl rfl) (pe_op op_cat (pv 0) (pe_lst (pa_cons pe_str (pa_cons pe_str (pa_cons pe_str (pa_cons pe_str (pa_cons pe_str (pa_cons pe_str (pa_cons pe_str (pa_cons pe_str (pa_cons pe_str (pa_cons pe_str pa_nil)))))))))))))
 (pss_one (ps_ret (pe_op op_cat (pv 0) (pe_lst (pa_cons pe_str (pa_cons pe_str (pa_cons pe_str pa_nil)))))))))
theorem wk_law_drawn (T : Txt K w mg A)
    (G_law_words : FnOk P w K mg base CX0 1 A.a_law_words A.d_law_words [] (sp_law_words K))
    (G_law_draw : FnOk P w K mg base CX0 1 A.a_law_draw A.d_law_draw ["box", "many"] (sp_law_draw K))
    (G_law_row : FnOk P w K mg base CX0 4 A.a_law_row A.d_law_row ["box", "word", "many", "size", "known"] (sp_law_row K))
    (G_law_word : FnOk P w K mg base CX0 2 A.a_law_word A.d_law_word ["box", "known"] (sp_law_word K))
    (len : ∀ vs H Q E, sp_law_drawn K vs H Q E → vs.length = 2) (rd : ∀ vs H Q E, sp_law_drawn K vs H Q E → t_law_drawn K w A { nx := fun _ H' => Q .non H', rt := Q } (start n_law_drawn vs) H) :
    FnOk P w K mg base CX0 5 A.a_law_drawn A.d_law_drawn ["box", "known"] (sp_law_drawn K) := by
  refine T.F_law_drawn.ok sc_law_drawn len (fun cdv Ar outer s H vs Q E hr h => ⟨t_law_drawn K w A, ?_, rd vs H Q E h⟩)
  exact (pss_cons (ps_set (i := 2) sc_law_drawn.nd rfl (Or.inr rfl) (pe_op op_cat (pe_call0 G_law_words (hr.mono (by decide)) rfl T.g_law_words T.F_law_words.kp T.b_law_words .nil pass0) (pe_lst (pa_cons pe_str (pa_cons pe_str (pa_cons pe_str (pa_cons pe_str (pa_cons pe_str (pa_cons pe_str (pa_cons pe_str pa_nil))))))))))
 (pss_cons (ps_set (i := 3) sc_law_drawn.nd rfl (Or.inr rfl) (pe_op op_add pe_int (pe_call G_law_draw (hr.mono (by decide)) rfl T.g_law_draw T.F_law_draw.kp T.b_law_draw .nil pass0 (pa_cons (pv 0) (pa_cons pe_int pa_nil)))))
 (pss_cons (ps_set (i := 4) sc_law_drawn.nd rfl (Or.inr rfl) (pe_op op_add (pe_ix ix_list (pe_lst (pa_cons pe_int (pa_cons pe_int (pa_cons pe_int (pa_cons pe_int (pa_cons pe_int (pa_cons pe_int pa_nil))))))) (pe_call G_law_draw (hr.mono (by decide)) rfl T.g_law_draw T.F_law_draw.kp T.b_law_draw .nil pass0 (pa_cons (pv 0) (pa_cons pe_int pa_nil))) (fun _ _ => rfl)) (pe_call G_law_draw (hr.mono (by decide)) rfl T.g_law_draw T.F_law_draw.kp T.b_law_draw .nil pass0 (pa_cons (pv 0) (pa_cons pe_int pa_nil)))))
 (pss_cons (ps_setLc (i := 6) (own := [("k", 5)]) (g := (gName 5)) (tt := tYes) rfl sc_law_drawn.nd rfl rfl (sw_true rfl rfl rfl (by decide +kernel)) (pi_range1 rfl T.n_range (pa_cons (pe_op op_sub (pv 4) pe_int) pa_nil)) (blkOk_by (own := [("k", 5)]) (N := n_law_drawn) (sc := defScope s_law_drawn) (by decide +kernel)) (fun _ _ _ _ _ => (pg_name (i := 5) sc_law_drawn.nd rfl (Or.inl rfl))) (fun _ _ _ _ _ => pts_nil) (fun _ _ _ _ _ => (pe_call G_law_row (hr.mono (by decide)) rfl T.g_law_row T.F_law_row.kp T.b_law_row .nil pass0 (pa_cons (pv 0) (pa_cons (pe_ix ix_list (pv 2) (pe_call G_law_draw (hr.mono (by decide)) rfl T.g_law_draw T.F_law_draw.kp T.b_law_draw .nil pass0 (pa_cons (pv 0) (pa_cons pe_int pa_nil))) (fun _ _ => rfl)) (pa_cons (pv 4) (pa_cons (pv 3) (pa_cons (pv 1) pa_nil))))))))
 (pss_cons (ps_expr (pe_bm PySem.F.plainAttrs_list PySem.F.slot_list_append PySem.F.type_list_append mt_append (pv 6) (pa_cons (pe_call G_law_row (hr.mono (by decide)) rfl T.g_law_row T.F_law_row.kp T.b_law_row .nil pass0 (pa_cons (pv 0) (pa_cons (pe_ix ix_list (pe_lst (pa_cons pe_str (pa_cons pe_str (pa_cons pe_str pa_nil)))) (pe_call G_law_draw (hr.mono (by decide)) rfl T.g_law_draw T.F_law_draw.kp T.b_law_draw .nil pass0 (pa_cons (pv 0) (pa_cons pe_int pa_nil))) (fun _ _ => rfl)) (pa_cons (pv 4) (pa_cons (pv 3) (pa_cons (pv 1) pa_nil)))))) pa_nil)))
 (pss_cons (ps_set (i := 7) sc_law_drawn.nd rfl (Or.inl rfl) (pe_lst pa_nil))
 (pss_cons (ps_for PassesOwn.never rfl (pi_range1 rfl T.n_range (pa_cons (pe_ix ix_list (pe_lst (pa_cons pe_int (pa_cons pe_int (pa_cons pe_int (pa_cons pe_int pa_nil))))) (pe_call G_law_draw (hr.mono (by decide)) rfl T.g_law_draw T.F_law_draw.kp T.b_law_draw .nil pass0 (pa_cons (pv 0) (pa_cons pe_int pa_nil))) (fun _ _ => rfl)) pa_nil)) (pg_name (i := 5) sc_law_drawn.nd rfl (Or.inl rfl))
 (pss_cons (ps_set (i := 8) sc_law_drawn.nd rfl (Or.inl rfl) (pe_call G_law_draw (hr.mono (by decide)) rfl T.g_law_draw T.F_law_draw.kp T.b_law_draw .nil pass0 (pa_cons (pv 0) (pa_cons (pv 4) pa_nil))))
 (pss_cons (ps_set (i := 9) sc_law_drawn.nd rfl (Or.inl rfl) (pe_op op_add (pv 8) (pe_call G_law_draw (hr.mono (by decide)) rfl T.g_law_draw T.F_law_draw.kp T.b_law_draw .nil pass0 (pa_cons (pv 0) (pa_cons (pe_op op_add (pe_op op_sub (pv 4) (pv 8)) pe_int) pa_nil)))))
 (pss_one (ps_expr (pe_bm PySem.F.plainAttrs_list PySem.F.slot_list_append PySem.F.type_list_append mt_append (pv 7) (pa_cons (pe_tup (pa_cons (pv 8) (pa_cons (pv 9) (pa_cons (pe_call G_law_draw (hr.mono (by decide)) rfl T.g_law_draw T.F_law_draw.kp T.b_law_draw .nil pass0 (pa_cons (pv 0) (pa_cons (pv 4) pa_nil))) (pa_cons (pe_call G_law_draw (hr.mono (by decide)) rfl T.g_law_draw T.F_law_draw.kp T.b_law_draw .nil pass0 (pa_cons (pv 0) (pa_cons (pv 3) pa_nil))) pa_nil))))) pa_nil)))))))
 (pss_cons (ps_if (pt_cmpR op_gt (pe_callB call_len_seq (by rfl) T.n_len (by decide +kernel) (pa_cons (pv 7) pa_nil)) pe_int (nomark _))
 (pss_one (ps_expr (pe_bm PySem.F.plainAttrs_list PySem.F.slot_list_append PySem.F.type_list_append mt_append (pv 7) (pa_cons (pe_ix ix_list (pv 7) (pe_call G_law_draw (hr.mono (by decide)) rfl T.g_law_draw T.F_law_draw.kp T.b_law_draw .nil pass0 (pa_cons (pv 0) (pa_cons pe_int pa_nil))) (fun _ _ => rfl)) pa_nil))))
 pss_nil)
 (pss_one (ps_ret (pe_lst (pa_cons (pe_call G_law_word (hr.mono (by decide)) rfl T.g_law_word T.F_law_word.kp T.b_law_word .nil pass0 (pa_cons (pv 0) (pa_cons (pv 1) pa_nil))) (pa_cons (pe_call G_law_draw (hr.mono (by decide)) rfl T.g_law_draw T.F_law_draw.kp T.b_law_draw .nil pass0 (pa_cons (pv 0) (pa_cons (pe_op op_add (pv 3) pe_int) pa_nil))) (pa_cons (pv 3) (pa_cons (pv 6) (pa_cons (pv 7) pa_nil))))))))))))))))
theorem wk_law_read (T : Txt K w mg A)
    (len : ∀ vs H Q E, sp_law_read K vs H Q E → vs.length = 1) (rd : ∀ vs H Q E, sp_law_read K vs H Q E → t_law_read K w A { nx := fun _ H' => Q .non H', rt := Q } (start n_law_read vs) H) :
    FnOk P w K mg base CX0 1 A.a_law_read A.d_law_read ["row"] (sp_law_read K) := by
  refine T.F_law_read.ok sc_law_read len (fun cdv Ar outer s H vs Q E hr h => ⟨t_law_read K w A, ?_, rd vs H Q E h⟩)
  exact (pss_cons (ps_set (i := 1) sc_law_read.nd rfl (Or.inl rfl) (pe_ix ix_tup (pv 0) pe_int (fun _ _ => rfl)))
 (pss_cons (ps_if (pt_cmpR op_in_seq (pv 1) (pe_lst (pa_cons pe_str (pa_cons pe_str pa_nil))) rfl)
 (pss_one (ps_ret (pe_callTy call_list_of (by rfl) T.n_list (by decide +kernel) (pa_cons (pe_ix ix_tup (pv 0) (pe_un un_neg pe_int) (fun _ _ => rfl)) pa_nil))))
 pss_nil)
 (pss_cons (ps_if (pt_cmpR op_in_seq (pv 1) (pe_lst (pa_cons pe_str (pa_cons pe_str pa_nil))) rfl)
 (pss_one (ps_ret (pe_op op_cat (pe_lst (pa_cons (pe_ix ix_tup (pv 0) pe_int (fun _ _ => rfl)) pa_nil)) (pe_callTy call_list_of (by rfl) T.n_list (by decide +kernel) (pa_cons (pe_ix ix_tup (pv 0) (pe_un un_neg pe_int) (fun _ _ => rfl)) pa_nil)))))
 pss_nil)
 (pss_cons (ps_set (i := 2) sc_law_read.nd rfl (Or.inl rfl) (pe_disp (pps_cons pe_str (pe_lst (pa_cons pe_int pa_nil)) (pps_cons pe_str (pe_lst (pa_cons pe_int (pa_cons pe_int pa_nil))) (pps_cons pe_str (pe_lst (pa_cons pe_int pa_nil)) (pps_cons pe_str (pe_lst (pa_cons pe_int pa_nil)) (pps_cons pe_str (pe_lst (pa_cons pe_int pa_nil)) (pps_cons pe_str (pe_lst (pa_cons pe_int pa_nil)) (pps_cons pe_str (pe_lst (pa_cons pe_int (pa_cons pe_int pa_nil))) pps_nil))))))) (by rfl) (by rfl) (by simp) (by decide)))
 (pss_cons (ps_set (i := 3) sc_law_read.nd rfl (Or.inl rfl) (pe_disp (pps_cons pe_str (pe_lst (pa_cons pe_int pa_nil)) (pps_cons pe_str (pe_lst (pa_cons pe_int pa_nil)) (pps_cons pe_str (pe_lst (pa_cons pe_int (pa_cons pe_int pa_nil))) (pps_cons pe_str (pe_lst (pa_cons pe_int (pa_cons pe_int (pa_cons pe_int pa_nil)))) (pps_cons pe_str (pe_lst (pa_cons pe_int pa_nil)) (pps_cons pe_str (pe_lst (pa_cons pe_int pa_nil)) pps_nil)))))) (by rfl) (by rfl) (by simp) (by decide)))
 (pss_cons (ps_if (pt_cmp (pc_din (hu_of hr) (pv 1) (pv 2)) rfl)
 (pss_one (ps_ret (pe_lc (own := [("place", 4)]) (g := (gName 4)) (tt := tYes) rfl sc_law_read.nd (pi_list (pe_dget (hu_of hr) (pv 2) (pv 1) (fun _ _ => rfl))) (blkOk_by (own := [("place", 4)]) (N := n_law_read) (sc := defScope s_law_read) (by decide +kernel)) (fun _ _ _ _ _ => (pg_name (i := 4) sc_law_read.nd rfl (Or.inl rfl))) (fun _ _ _ _ _ => pts_nil) (fun _ _ _ _ _ => (pe_ix ix_tup (pv 0) (pv 4) (fun _ _ => rfl))))))
 pss_nil)
 (pss_cons (ps_if (pt_cmp (pc_din (hu_of hr) (pv 1) (pv 3)) rfl)
 (pss_one (ps_ret (pe_lc (own := [("place", 4)]) (g := (gName 4)) (tt := tYes) rfl sc_law_read.nd (pi_list (pe_dget (hu_of hr) (pv 3) (pv 1) (fun _ _ => rfl))) (blkOk_by (own := [("place", 4)]) (N := n_law_read) (sc := defScope s_law_read) (by decide +kernel)) (fun _ _ _ _ _ => (pg_name (i := 4) sc_law_read.nd rfl (Or.inl rfl))) (fun _ _ _ _ _ => pts_nil) (fun _ _ _ _ _ => (pe_ix ix_tup (pv 0) (pv 4) (fun _ _ => rfl))))))
 pss_nil)
 (pss_cons (ps_if (pt_cmpR op_in_seq (pv 1) (pe_lst (pa_cons pe_str (pa_cons pe_str (pa_cons pe_str pa_nil)))) rfl)
 (pss_one (ps_ret (pe_lst (pa_cons (pe_ix ix_tup (pv 0) pe_int (fun _ _ => rfl)) pa_nil))))
 pss_nil)
 (pss_one (ps_ret (pe_lst pa_nil)))))))))))
theorem wk_law_written (T : Txt K w mg A)
    (len : ∀ vs H Q E, sp_law_written K vs H Q E → vs.length = 1) (rd : ∀ vs H Q E, sp_law_written K vs H Q E → t_law_written K w A { nx := fun _ H' => Q .non H', rt := Q } (start n_law_written vs) H) :
    FnOk P w K mg base CX0 1 A.a_law_written A.d_law_written ["row"] (sp_law_written K) := by
  refine T.F_law_written.ok sc_law_written len (fun cdv Ar outer s H vs Q E hr h => ⟨t_law_written K w A, ?_, rd vs H Q E h⟩)
  exact (pss_cons (ps_if (pt_cmpR op_eq (pe_ix ix_tup (pv 0) pe_int (fun _ _ => rfl)) pe_str (nomark _))
 (pss_one (ps_ret (pe_ix ix_tup (pv 0) pe_int (fun _ _ => rfl))))
 pss_nil)
 (pss_cons (ps_set (i := 1) sc_law_written.nd rfl (Or.inl rfl) (pe_lst (pa_cons pe_str (pa_cons pe_str (pa_cons pe_str (pa_cons pe_str (pa_cons pe_str (pa_cons pe_str (pa_cons pe_str (pa_cons pe_str (pa_cons pe_str (pa_cons pe_str (pa_cons pe_str (pa_cons pe_str pa_nil))))))))))))))
 (pss_cons (ps_if (pt_cmpR op_in_seq (pe_ix ix_tup (pv 0) pe_int (fun _ _ => rfl)) (pv 1) rfl)
 (pss_one (ps_ret (pe_ix ix_tup (pv 0) pe_int (fun _ _ => rfl))))
 pss_nil)
 (pss_one (ps_ret pe_non)))))
theorem wk_law_later (T : Txt K w mg A)
    (len : ∀ vs H Q E, sp_law_later K vs H Q E → vs.length = 2) (rd : ∀ vs H Q E, sp_law_later K vs H Q E → t_law_later K w A { nx := fun _ H' => Q .non H', rt := Q } (start n_law_later vs) H) :
    FnOk P w K mg base CX0 1 A.a_law_later A.d_law_later ["rows", "at"] (sp_law_later K) := by
  refine T.F_law_later.ok sc_law_later len (fun cdv Ar outer s H vs Q E hr h => ⟨t_law_later K w A, ?_, rd vs H Q E h⟩)
  exact (pss_cons (ps_set (i := 2) sc_law_later.nd rfl (Or.inl rfl) (pe_ix ix_tup (pe_ix ix_list (pv 0) (pv 1) (fun _ _ => rfl)) pe_int (fun _ _ => rfl)))
 (pss_cons (ps_if (pt_cmpR op_in_seq (pv 2) (pe_lst (pa_cons pe_str (pa_cons pe_str pa_nil))) rfl)
 (pss_one (ps_ret (pe_lst pa_nil)))
 pss_nil)
 (pss_cons (ps_if (pt_cmpR op_eq (pv 2) pe_str (nomark _))
 (pss_one (ps_ret (pe_lst (pa_cons (pe_ix ix_tup (pe_ix ix_list (pv 0) (pv 1) (fun _ _ => rfl)) pe_int (fun _ _ => rfl)) pa_nil))))
 pss_nil)
 (pss_cons (ps_if (PW.pt (pw_and (pt_cmpR op_eq (pv 2) pe_str (nomark _)) (pw_and1 (pt_cmpR op_ne (pe_ix ix_tup (pe_ix ix_list (pv 0) (pv 1) (fun _ _ => rfl)) pe_int (fun _ _ => rfl)) (pe_op op_add (pv 1) pe_int) (nomark _)))))
 (pss_one (ps_ret (pe_callB cr_sortedI (by rfl) T.n_sorted (by decide +kernel) (pa_cons (pe_lst (pa_cons (pe_op op_add (pv 1) pe_int) (pa_cons (pe_ix ix_tup (pe_ix ix_list (pv 0) (pv 1) (fun _ _ => rfl)) pe_int (fun _ _ => rfl)) pa_nil))) pa_nil))))
 pss_nil)
 (pss_one (ps_ret (pe_lst (pa_cons (pe_op op_add (pv 1) pe_int) pa_nil))))))))
theorem wk_law_catcher (T : Txt K w mg A)
    (len : ∀ vs H Q E, sp_law_catcher K vs H Q E → vs.length = 2) (rd : ∀ vs H Q E, sp_law_catcher K vs H Q E → t_law_catcher K w A { nx := fun _ H' => Q .non H', rt := Q } (start n_law_catcher vs) H) :
    FnOk P w K mg base CX0 1 A.a_law_catcher A.d_law_catcher ["handlers", "at"] (sp_law_catcher K) := by
  refine T.F_law_catcher.ok sc_law_catcher len (fun cdv Ar outer s H vs Q E hr h => ⟨t_law_catcher K w A, ?_, rd vs H Q E h⟩)
  exact (pss_cons (ps_for PassesOwn.never rfl (pi_list (pv 0)) (pg_name (i := 2) sc_law_catcher.nd rfl (Or.inl rfl))
 (pss_one (ps_if (PW.pt (pw_and (pt_cmpR op_le (pe_ix ix_tup (pv 2) pe_int (fun _ _ => rfl)) (pv 1) (nomark _)) (pw_and1 (pt_cmpR op_lt (pv 1) (pe_ix ix_tup (pv 2) pe_int (fun _ _ => rfl)) (nomark _)))))
 (pss_one (ps_ret (pv 2)))
 pss_nil)))
 (pss_one (ps_ret pe_non)))
theorem wk_law_same (T : Txt K w mg A)
    (len : ∀ n vs H Q E, sp_law_same n K vs H Q E → vs.length = 2) (zero : ∀ vs H Q E, ¬ sp_law_same 0 K vs H Q E) (rd : ∀ n vs H Q E, sp_law_same (n + 1) K vs H Q E → t_law_same n K w A { nx := fun _ H' => Q .non H', rt := Q } (start n_law_same vs) H) :
    ∀ n, FnOk P w K mg base CX0 (1 + n) A.a_law_same A.d_law_same ["value", "due"] (sp_law_same n K) := by
  intro n
  induction n with
  | zero => exact T.F_law_same.ok sc_law_same (len 0) (fun cdv Ar outer s H vs Q E hr h => (zero vs H Q E h).elim)
  | succ n ih =>
  refine T.F_law_same.ok sc_law_same (len (n + 1)) (fun cdv Ar outer s H vs Q E hr h => ⟨t_law_same n K w A, ?_, rd n vs H Q E h⟩)
  have hr : Room (1 + n) _ := hr
  exact (pss_cons (ps_if (PW.pt (pw_or (pt_val (pe_callB call_isi (by rfl) T.n_isinstance (by decide +kernel) (pa_cons (pv 1) (pa_cons (pe_bltn (v := .ty "list") (by rfl) T.n_list (by decide +kernel) rfl) pa_nil)))) (pw_or1 (pt_val (pe_callB call_isi (by rfl) T.n_isinstance (by decide +kernel) (pa_cons (pv 1) (pa_cons (pe_bltn (v := .ty "tuple") (by rfl) T.n_tuple (by decide +kernel) rfl) pa_nil)))))))
 (pss_cons (ps_if (PW.pt (pw_and (pt_val (pe_callB call_isi (by rfl) T.n_isinstance (by decide +kernel) (pa_cons (pv 1) (pa_cons (pe_bltn (v := .ty "list") (by rfl) T.n_list (by decide +kernel) rfl) pa_nil)))) (pw_and1 (pt_not (pt_val (pe_callB call_isi (by rfl) T.n_isinstance (by decide +kernel) (pa_cons (pv 0) (pa_cons (pe_bltn (v := .ty "list") (by rfl) T.n_list (by decide +kernel) rfl) pa_nil))))))))
 (pss_one (ps_ret pe_bl))
 pss_nil)
 (pss_cons (ps_if (PW.pt (pw_and (pt_val (pe_callB call_isi (by rfl) T.n_isinstance (by decide +kernel) (pa_cons (pv 1) (pa_cons (pe_bltn (v := .ty "tuple") (by rfl) T.n_tuple (by decide +kernel) rfl) pa_nil)))) (pw_and1 (pt_not (pt_val (pe_callB call_isi (by rfl) T.n_isinstance (by decide +kernel) (pa_cons (pv 0) (pa_cons (pe_bltn (v := .ty "tuple") (by rfl) T.n_tuple (by decide +kernel) rfl) pa_nil))))))))
 (pss_one (ps_ret pe_bl))
 pss_nil)
 (pss_one (ps_ret (pe_and (pe_cmpR op_eq (pe_callB call_len_seq (by rfl) T.n_len (by decide +kernel) (pa_cons (pv 0) pa_nil)) (pe_callB call_len_seq (by rfl) T.n_len (by decide +kernel) (pa_cons (pv 1) pa_nil)) (nomark _)) (pe_one (pe_callB (cr_all rfl) (by rfl) T.n_all (by decide +kernel) (pa_cons (pe_lc (own := [("k", 2)]) (g := (gName 2)) (tt := tYes) rfl sc_law_same.nd (pi_range1 rfl T.n_range (pa_cons (pe_callB call_len_seq (by rfl) T.n_len (by decide +kernel) (pa_cons (pv 1) pa_nil)) pa_nil)) (blkOk_by (own := [("k", 2)]) (N := n_law_same) (sc := defScope s_law_same) (by decide +kernel)) (fun _ _ _ _ _ => (pg_name (i := 2) sc_law_same.nd rfl (Or.inl rfl))) (fun _ _ _ _ _ => pts_nil) (fun _ _ _ _ _ => (pe_call ih (hr.mono (by omega)) rfl T.g_law_same T.F_law_same.kp T.b_law_same .nil pass0 (pa_cons (pe_ix (IxR.or ix_list ix_tup) (pv 0) (pv 2) (fun _ _ => rfl)) (pa_cons (pe_ix (IxR.or ix_list ix_tup) (pv 1) (pv 2) (fun _ _ => rfl)) pa_nil))))) pa_nil))))))))
 pss_nil)
 (pss_cons (ps_if (pt_cmpR op_isN (pv 1) pe_non (nomark _))
 (pss_one (ps_ret (pe_cmpR op_isN (pv 0) pe_non (nomark _))))
 pss_nil)
 (pss_cons (ps_if (pt_val (pe_callB call_isi (by rfl) T.n_isinstance (by decide +kernel) (pa_cons (pv 1) (pa_cons (pe_bltn (v := .ty "str") (by rfl) T.n_str (by decide +kernel) rfl) pa_nil))))
 (pss_one (ps_ret (pe_and (pe_callB call_isi (by rfl) T.n_isinstance (by decide +kernel) (pa_cons (pv 0) (pa_cons (pe_bltn (v := .ty "str") (by rfl) T.n_str (by decide +kernel) rfl) pa_nil))) (pe_one (pe_cmpR op_eq (pv 0) (pv 1) (nomark _))))))
 pss_nil)
 (pss_one (ps_ret (pe_and (pe_callB call_isi (by rfl) T.n_isinstance (by decide +kernel) (pa_cons (pv 0) (pa_cons (pe_bltn (v := .ty "int") (by rfl) T.n_int (by decide +kernel) rfl) pa_nil))) (pe_and (pe_not (pe_callB call_isi (by rfl) T.n_isinstance (by decide +kernel) (pa_cons (pv 0) (pa_cons (pe_bltn (v := .ty "bool") (by rfl) T.n_bool (by decide +kernel) rfl) pa_nil)))) (pe_one (pe_cmpR op_eq (pv 0) (pv 1) (nomark _))))))))))
theorem wk_law_row_agrees (T : Txt K w mg A)
    (G_law_read : FnOk P w K mg base CX0 1 A.a_law_read A.d_law_read ["row"] (sp_law_read K))
    (G_law_same : FnOk P w K mg base CX0 6 A.a_law_same A.d_law_same ["value", "due"] (sp_law_same 5 K))
    (G_uses : FnOk P w K mg base CX0 2 A.a_uses A.d_uses ["row"] (sp_uses K))
    (G_law_written : FnOk P w K mg base CX0 1 A.a_law_written A.d_law_written ["row"] (sp_law_written K))
    (G_target : FnOk P w K mg base CX0 1 A.a_target A.d_target ["row"] (sp_target K))
    (len : ∀ vs H Q E, sp_law_row_agrees K vs H Q E → vs.length = 2) (rd : ∀ vs H Q E, sp_law_row_agrees K vs H Q E → t_law_row_agrees K w A { nx := fun _ H' => Q .non H', rt := Q } (start n_law_row_agrees vs) H) :
    FnOk P w K mg base CX0 7 A.a_law_row_agrees A.d_law_row_agrees ["row", "size"] (sp_law_row_agrees K) := by
  refine T.F_law_row_agrees.ok sc_law_row_agrees len (fun cdv Ar outer s H vs Q E hr h => ⟨t_law_row_agrees K w A, ?_, rd vs H Q E h⟩)
  exact (pss_cons (ps_set (i := 2) sc_law_row_agrees.nd rfl (Or.inr rfl) (pe_call G_law_read (hr.mono (by decide)) rfl T.g_law_read T.F_law_read.kp T.b_law_read .nil pass0 (pa_cons (pv 0) pa_nil)))
 (pss_cons (ps_if (pt_not (pt_val (pe_call G_law_same (hr.mono (by decide)) rfl T.g_law_same T.F_law_same.kp T.b_law_same .nil pass0 (pa_cons (pe_call G_uses (hr.mono (by decide)) rfl T.g_uses T.F_uses.kp T.b_uses .nil pass0 (pa_cons (pv 0) pa_nil)) (pa_cons (pe_lc (own := [("slot", 3)]) (g := (gName 3)) (tt := (tTest (tOp (rIn K false) (tVar 3) (tVar 2)))) rfl sc_law_row_agrees.nd (pi_range1 rfl T.n_range (pa_cons (pv 1) pa_nil)) (blkOk_by (own := [("slot", 3)]) (N := n_law_row_agrees) (sc := defScope s_law_row_agrees) (by decide +kernel)) (fun _ _ _ _ _ => (pg_name (i := 3) sc_law_row_agrees.nd rfl (Or.inl rfl))) (fun _ _ _ _ _ => pts_one (pt_cmpR op_in_seq (pv 3) (pv 2) rfl)) (fun _ _ _ _ _ => (pv 3))) pa_nil)))))
 (pss_one (ps_ret pe_bl))
 pss_nil)
 (pss_one (ps_ret (pe_call G_law_same (hr.mono (by decide)) rfl T.g_law_same T.F_law_same.kp T.b_law_same .nil pass0 (pa_cons (pe_call G_target (hr.mono (by decide)) rfl T.g_target T.F_target.kp T.b_target .nil pass0 (pa_cons (pv 0) pa_nil)) (pa_cons (pe_call G_law_written (hr.mono (by decide)) rfl T.g_law_written T.F_law_written.kp T.b_law_written .nil pass0 (pa_cons (pv 0) pa_nil)) pa_nil)))))))
theorem wk_law_loops (T : Txt K w mg A)
    (len : ∀ vs H Q E, sp_law_loops K vs H Q E → vs.length = 1) (rd : ∀ vs H Q E, sp_law_loops K vs H Q E → t_law_loops K w A { nx := fun _ H' => Q .non H', rt := Q } (start n_law_loops vs) H) :
    FnOk P w K mg base CX0 1 A.a_law_loops A.d_law_loops ["rows"] (sp_law_loops K) := by
  refine T.F_law_loops.ok sc_law_loops len (fun cdv Ar outer s H vs Q E hr h => ⟨t_law_loops K w A, ?_, rd vs H Q E h⟩)
  exact (pss_cons (ps_set (i := 1) sc_law_loops.nd rfl (Or.inl rfl) (pe_lst pa_nil))
 (pss_cons (ps_for PassesOwn.never rfl (pi_range1 rfl T.n_range (pa_cons (pe_callB call_len_seq (by rfl) T.n_len (by decide +kernel) (pa_cons (pv 0) pa_nil)) pa_nil)) (pg_name (i := 2) sc_law_loops.nd rfl (Or.inl rfl))
 (pss_one (ps_if (pt_cmpR (op_inD (hu65 hr)) (pe_tup (pa_cons pe_str (pa_cons (pv 2) pa_nil))) (pe_slice sl_list (pv 0) (po_some (pv 2)) po_none) rfl)
 (pss_one (ps_expr (pe_bm PySem.F.plainAttrs_list PySem.F.slot_list_append PySem.F.type_list_append mt_append (pv 1) (pa_cons (pv 2) pa_nil))))
 pss_nil)))
 (pss_one (ps_ret (pv 1)))))
theorem wk_law_has (T : Txt K w mg A)
    (G_law_same : FnOk P w K mg base CX0 6 A.a_law_same A.d_law_same ["value", "due"] (sp_law_same 5 K))
    (len : ∀ vs H Q E, sp_law_has K vs H Q E → vs.length = 2) (rd : ∀ vs H Q E, sp_law_has K vs H Q E → t_law_has K w A { nx := fun _ H' => Q .non H', rt := Q } (start n_law_has vs) H) :
    FnOk P w K mg base CX0 7 A.a_law_has A.d_law_has ["code", "drawn"] (sp_law_has K) := by
  refine T.F_law_has.ok sc_law_has len (fun cdv Ar outer s H vs Q E hr h => ⟨t_law_has K w A, ?_, rd vs H Q E h⟩)
  exact (pss_one (ps_ret (pe_call G_law_same (hr.mono (by decide)) rfl T.g_law_same T.F_law_same.kp T.b_law_same .nil pass0 (pa_cons (pe_lst (pa_cons (pe_fld (pv 0) rfl) (pa_cons (pe_fld (pv 0) rfl) (pa_cons (pe_fld (pv 0) rfl) (pa_cons (pe_fld (pv 0) rfl) (pa_cons (pe_fld (pv 0) rfl) pa_nil)))))) (pa_cons (pv 1) pa_nil)))))
theorem wk_law (T : Txt K w mg A)
    (G_law_box : FnOk P w K mg base CX0 1 A.a_law_box A.d_law_box ["script"] (sp_law_box K))
    (G_law_drawn : FnOk P w K mg base CX0 5 A.a_law_drawn A.d_law_drawn ["box", "known"] (sp_law_drawn K))
    (G_Code_init : FnOk P w K mg base CX0 1 A.a_Code_init A.d_Code_init ["self", "name", "params", "size", "rows", "handlers"] (sp_Code_init K))
    (G_law_words : FnOk P w K mg base CX0 1 A.a_law_words A.d_law_words [] (sp_law_words K))
    (G_law_row_agrees : FnOk P w K mg base CX0 7 A.a_law_row_agrees A.d_law_row_agrees ["row", "size"] (sp_law_row_agrees K))
    (G_law_row : FnOk P w K mg base CX0 4 A.a_law_row A.d_law_row ["box", "word", "many", "size", "known"] (sp_law_row K))
    (G_law_same : FnOk P w K mg base CX0 6 A.a_law_same A.d_law_same ["value", "due"] (sp_law_same 5 K))
    (G_law_later : FnOk P w K mg base CX0 1 A.a_law_later A.d_law_later ["rows", "at"] (sp_law_later K))
    (G_following : FnOk P w K mg base CX0 1 A.a_following A.d_following ["code", "pc"] (sp_following K))
    (G_law_catcher : FnOk P w K mg base CX0 1 A.a_law_catcher A.d_law_catcher ["handlers", "at"] (sp_law_catcher K))
    (G_handler_at : FnOk P w K mg base CX0 1 A.a_handler_at A.d_handler_at ["code", "pc"] (sp_handler_at K))
    (G_law_loops : FnOk P w K mg base CX0 1 A.a_law_loops A.d_law_loops ["rows"] (sp_law_loops K))
    (G_heads : FnOk P w K mg base CX0 1 A.a_heads A.d_heads ["code"] (sp_heads K))
    (G_told_code : FnOk P w K mg base CX0 1 A.a_told_code A.d_told_code ["code"] (sp_told_code K))
    (G_code_of : FnOk P w K mg base CX0 3 A.a_code_of A.d_code_of ["told"] (sp_code_of K))
    (G_law_has : FnOk P w K mg base CX0 7 A.a_law_has A.d_law_has ["code", "drawn"] (sp_law_has K))
    (len : ∀ vs H Q E, sp_law K vs H Q E → vs.length = 1) (rd : ∀ vs H Q E, sp_law K vs H Q E → t_law K w A { nx := fun _ H' => Q .non H', rt := Q } (start n_law vs) H) :
    FnOk P w K mg base CX0 8 A.a_law A.d_law ["script"] (sp_law K) := by
  refine T.F_law.ok sc_law len (fun cdv Ar outer s H vs Q E hr h => ⟨t_law K w A, ?_, rd vs H Q E h⟩)
  exact (pss_cons (ps_set (i := 1) sc_law.nd rfl (Or.inl rfl) (pe_call G_law_box (hr.mono (by decide)) rfl T.g_law_box T.F_law_box.kp T.b_law_box .nil pass0 (pa_cons (pv 0) pa_nil)))
 (pss_cons (ps_set (i := 2) sc_law.nd rfl (Or.inl rfl) (pe_lst pa_nil))
 (pss_cons (ps_set (i := 3) sc_law.nd rfl (Or.inl rfl) (pe_lst (pa_cons (pe_call G_law_drawn (hr.mono (by decide)) rfl T.g_law_drawn T.F_law_drawn.kp T.b_law_drawn .nil pass0 (pa_cons (pv 1) (pa_cons (pv 2) pa_nil))) (pa_cons (pe_call G_law_drawn (hr.mono (by decide)) rfl T.g_law_drawn T.F_law_drawn.kp T.b_law_drawn .nil pass0 (pa_cons (pv 1) (pa_cons (pv 2) pa_nil))) pa_nil))))
 (pss_cons (ps_set (i := 4) sc_law.nd rfl (Or.inl rfl) (pe_lst pa_nil))
 (pss_cons (ps_for PassesOwn.never rfl (pi_list (pv 3)) (pg_name (i := 5) sc_law.nd rfl (Or.inl rfl))
 (pss_cons (ps_set (i := 6) sc_law.nd rfl (Or.inl rfl) (pe_callTy call_list_of (by rfl) T.n_list (by decide +kernel) (pa_cons (pe_ix ix_list (pv 5) pe_int (fun _ _ => rfl)) pa_nil)))
 (pss_cons (ps_set (i := 7) sc_law.nd rfl (Or.inl rfl) (pe_callTy call_list_of (by rfl) T.n_list (by decide +kernel) (pa_cons (pe_ix ix_list (pv 5) pe_int (fun _ _ => rfl)) pa_nil)))
 (pss_cons (ps_expr (pe_bm PySem.F.plainAttrs_list PySem.F.slot_list_append PySem.F.type_list_append mt_append (pv 4) (pa_cons (pe_make T.m_Code G_Code_init (hr.mono (by decide)) rfl T.gc_Code T.b_Code_init .nil pass0 (pa_cons (pe_ix ix_list (pv 5) pe_int (fun _ _ => rfl)) (pa_cons (pe_ix ix_list (pv 5) pe_int (fun _ _ => rfl)) (pa_cons (pe_ix ix_list (pv 5) pe_int (fun _ _ => rfl)) (pa_cons (pv 6) (pa_cons (pv 7) pa_nil)))))) pa_nil)))
 (pss_cons (ps_expr (pe_bm0 PySem.F.plainAttrs_list PySem.F.slot_list_clear PySem.F.type_list_clear mt_clear (pv 6)))
 (pss_one (ps_expr (pe_bm PySem.F.plainAttrs_list PySem.F.slot_list_append PySem.F.type_list_append mt_append (pv 7) (pa_cons (pe_tup (pa_cons pe_int (pa_cons pe_int (pa_cons pe_int (pa_cons pe_int pa_nil))))) pa_nil)))))))))
 (pss_cons (ps_for PassesOwn.never rfl (pi_list (pe_call0 G_law_words (hr.mono (by decide)) rfl T.g_law_words T.F_law_words.kp T.b_law_words .nil pass0)) (pg_name (i := 8) sc_law.nd rfl (Or.inl rfl))
 (pss_one (ps_if (pt_not (pt_val (pe_call G_law_row_agrees (hr.mono (by decide)) rfl T.g_law_row_agrees T.F_law_row_agrees.kp T.b_law_row_agrees .nil pass0 (pa_cons (pe_call G_law_row (hr.mono (by decide)) rfl T.g_law_row T.F_law_row.kp T.b_law_row .nil pass0 (pa_cons (pv 1) (pa_cons (pv 8) (pa_cons pe_int (pa_cons pe_int (pa_cons (pv 2) pa_nil)))))) (pa_cons pe_int pa_nil)))))
 (pss_one (ps_ret pe_bl))
 pss_nil)))
 (pss_cons (ps_for PassesOwn.never rfl (pi_list (pe_lst (pa_cons pe_int (pa_cons pe_int (pa_cons pe_int pa_nil))))) (pg_name (i := 9) sc_law.nd rfl (Or.inl rfl))
 (pss_cons (ps_set (i := 10) sc_law.nd rfl (Or.inl rfl) (pe_ix ix_list (pv 4) (pv 9) (fun _ _ => rfl)))
 (pss_cons (ps_set (i := 5) sc_law.nd rfl (Or.inl rfl) (pe_ix ix_list (pv 3) (pv 9) (fun _ _ => rfl)))
 (pss_cons (ps_for PassesOwn.never rfl (pi_range1 rfl T.n_range (pa_cons (pe_callB call_len_seq (by rfl) T.n_len (by decide +kernel) (pa_cons (pe_ix ix_list (pv 5) pe_int (fun _ _ => rfl)) pa_nil)) pa_nil)) (pg_name (i := 11) sc_law.nd rfl (Or.inl rfl))
 (pss_cons (ps_if (pt_not (pt_val (pe_call G_law_row_agrees (hr.mono (by decide)) rfl T.g_law_row_agrees T.F_law_row_agrees.kp T.b_law_row_agrees .nil pass0 (pa_cons (pe_ix ix_list (pe_ix ix_list (pv 5) pe_int (fun _ _ => rfl)) (pv 11) (fun _ _ => rfl)) (pa_cons (pe_ix ix_list (pv 5) pe_int (fun _ _ => rfl)) pa_nil)))))
 (pss_one (ps_ret pe_bl))
 pss_nil)
 (pss_cons (ps_if (pt_not (pt_val (pe_call G_law_same (hr.mono (by decide)) rfl T.g_law_same T.F_law_same.kp T.b_law_same .nil pass0 (pa_cons (pe_call G_following (hr.mono (by decide)) rfl T.g_following T.F_following.kp T.b_following .nil pass0 (pa_cons (pv 10) (pa_cons (pv 11) pa_nil))) (pa_cons (pe_call G_law_later (hr.mono (by decide)) rfl T.g_law_later T.F_law_later.kp T.b_law_later .nil pass0 (pa_cons (pe_ix ix_list (pv 5) pe_int (fun _ _ => rfl)) (pa_cons (pv 11) pa_nil))) pa_nil)))))
 (pss_one (ps_ret pe_bl))
 pss_nil)
 (pss_one (ps_if (pt_not (pt_val (pe_call G_law_same (hr.mono (by decide)) rfl T.g_law_same T.F_law_same.kp T.b_law_same .nil pass0 (pa_cons (pe_call G_handler_at (hr.mono (by decide)) rfl T.g_handler_at T.F_handler_at.kp T.b_handler_at .nil pass0 (pa_cons (pv 10) (pa_cons (pv 11) pa_nil))) (pa_cons (pe_call G_law_catcher (hr.mono (by decide)) rfl T.g_law_catcher T.F_law_catcher.kp T.b_law_catcher .nil pass0 (pa_cons (pe_ix ix_list (pv 5) pe_int (fun _ _ => rfl)) (pa_cons (pv 11) pa_nil))) pa_nil)))))
 (pss_one (ps_ret pe_bl))
 pss_nil)))))
 (pss_cons (ps_if (pt_not (pt_val (pe_call G_law_same (hr.mono (by decide)) rfl T.g_law_same T.F_law_same.kp T.b_law_same .nil pass0 (pa_cons (pe_call G_heads (hr.mono (by decide)) rfl T.g_heads T.F_heads.kp T.b_heads .nil pass0 (pa_cons (pv 10) pa_nil)) (pa_cons (pe_call G_law_loops (hr.mono (by decide)) rfl T.g_law_loops T.F_law_loops.kp T.b_law_loops .nil pass0 (pa_cons (pe_ix ix_list (pv 5) pe_int (fun _ _ => rfl)) pa_nil)) pa_nil)))))
 (pss_one (ps_ret pe_bl))
 pss_nil)
 (pss_cons (ps_set (i := 12) sc_law.nd rfl (Or.inl rfl) (pe_call G_told_code (hr.mono (by decide)) rfl T.g_told_code T.F_told_code.kp T.b_told_code .nil pass0 (pa_cons (pv 10) pa_nil)))
 (pss_cons (ps_if (pt_not (pt_val (pe_call G_law_same (hr.mono (by decide)) rfl T.g_law_same T.F_law_same.kp T.b_law_same .nil pass0 (pa_cons (pv 12) (pa_cons (pe_tup (pa_cons (pe_ix ix_list (pv 5) pe_int (fun _ _ => rfl)) (pa_cons (pe_ix ix_list (pv 5) pe_int (fun _ _ => rfl)) (pa_cons (pe_ix ix_list (pv 5) pe_int (fun _ _ => rfl)) (pa_cons (pe_callTy call_tuple_of (by rfl) T.n_tuple (by decide +kernel) (pa_cons (pe_ix ix_list (pv 5) pe_int (fun _ _ => rfl)) pa_nil)) (pa_cons (pe_callTy call_tuple_of (by rfl) T.n_tuple (by decide +kernel) (pa_cons (pe_ix ix_list (pv 5) pe_int (fun _ _ => rfl)) pa_nil)) pa_nil)))))) pa_nil)))))
 (pss_one (ps_ret pe_bl))
 pss_nil)
 (pss_cons (ps_set (i := 13) sc_law.nd rfl (Or.inl rfl) (pe_call G_code_of (hr.mono (by decide)) rfl T.g_code_of T.F_code_of.kp T.b_code_of .nil pass0 (pa_cons (pv 12) pa_nil)))
 (pss_one (ps_if (PW.pt (pw_or (pt_not (pt_val (pe_call G_law_has (hr.mono (by decide)) rfl T.g_law_has T.F_law_has.kp T.b_law_has .nil pass0 (pa_cons (pv 13) (pa_cons (pv 5) pa_nil))))) (pw_or (pt_not (pt_val (pe_call G_law_has (hr.mono (by decide)) rfl T.g_law_has T.F_law_has.kp T.b_law_has .nil pass0 (pa_cons (pv 10) (pa_cons (pv 5) pa_nil))))) (pw_or1 (pt_cmpR (op_neD hr.units) (pe_call G_told_code (hr.mono (by decide)) rfl T.g_told_code T.F_told_code.kp T.b_told_code .nil pass0 (pa_cons (pv 13) pa_nil)) (pv 12) (nomark _))))))
 (pss_one (ps_ret pe_bl))
 pss_nil))))))))))
 (pss_one (ps_ret pe_bl)))))))))
end
end LW
end
section
namespace LW
open PySem PySem.Spec PyProof.Rows L2 Rf
section
variable {P : Program} {w : World} {K : PySem.W.Frag} {mg : Str → Option Value} {base : Heap} {A : Adr}
theorem len_handler_at {vs H Q E} (h : sp_handler_at K vs H Q E) : vs.length = 2 := by
  obtain ⟨_, _, _, _, _, _, rfl, _⟩ := h
  rfl
theorem len_slots_read {vs H Q E} (h : sp_slots_read K vs H Q E) : vs.length = 1 := by
  obtain ⟨_, _, _, _, rfl, _⟩ := h
  rfl
theorem len_uses {vs H Q E} (h : sp_uses K vs H Q E) : vs.length = 1 := by
  obtain ⟨_, _, _, _, rfl, _⟩ := h
  rfl
theorem len_target {vs H Q E} (h : sp_target K vs H Q E) : vs.length = 1 := by
  obtain ⟨_, _, _, _, rfl, _⟩ := h
  rfl
theorem len_following {vs H Q E} (h : sp_following K vs H Q E) : vs.length = 2 := by
  obtain ⟨_, _, _, _, _, _, _, rfl, _⟩ := h
  rfl
theorem len_heads {vs H Q E} (h : sp_heads K vs H Q E) : vs.length = 1 := by
  obtain ⟨_, _, _, _, _, rfl, _⟩ := h
  rfl
theorem len_Code_init {vs H Q E} (h : sp_Code_init K vs H Q E) : vs.length = 6 := by
  obtain ⟨_, _, _, _, _, _, _, _, _, _, rfl, _⟩ := h
  rfl
theorem len_told_code {vs H Q E} (h : sp_told_code K vs H Q E) : vs.length = 1 := by
  obtain ⟨_, _, _, _, _, rfl, _⟩ := h
  rfl
theorem len_code_of {vs H Q E} (h : sp_code_of K vs H Q E) : vs.length = 1 := by
  obtain ⟨_, _, rfl, _⟩ := h
  rfl
theorem len_law_box {vs H Q E} (h : sp_law_box K vs H Q E) : vs.length = 1 := by
  obtain ⟨_, _, rfl, _⟩ := h
  rfl
theorem len_law_draw {vs H Q E} (h : sp_law_draw K vs H Q E) : vs.length = 2 := by
  obtain ⟨_, _, _, _, rfl, _⟩ := h
  rfl
theorem len_law_reserved {vs H Q E} (h : sp_law_reserved K vs H Q E) : vs.length = 0 := by
  obtain ⟨_, rfl, _⟩ := h
  rfl
theorem len_law_word {vs H Q E} (h : sp_law_word K vs H Q E) : vs.length = 2 := by
  obtain ⟨_, _, _, _, rfl, _⟩ := h
  rfl
theorem len_law_value {vs H Q E} (h : sp_law_value K vs H Q E) : vs.length = 2 := by
  obtain ⟨_, _, _, _, rfl, _⟩ := h
  rfl
theorem len_law_row {vs H Q E} (h : sp_law_row K vs H Q E) : vs.length = 5 := by
  obtain ⟨_, _, _, _, _, _, _, rfl, _⟩ := h
  rfl
theorem len_law_words {vs H Q E} (h : sp_law_words K vs H Q E) : vs.length = 0 := by
  obtain ⟨_, rfl, _⟩ := h
  rfl
theorem len_law_drawn {vs H Q E} (h : sp_law_drawn K vs H Q E) : vs.length = 2 := by
  obtain ⟨_, _, _, _, rfl, _⟩ := h
  rfl
theorem len_law_read {vs H Q E} (h : sp_law_read K vs H Q E) : vs.length = 1 := by
  obtain ⟨_, _, _, _, rfl, _⟩ := h
  rfl
theorem len_law_written {vs H Q E} (h : sp_law_written K vs H Q E) : vs.length = 1 := by
  obtain ⟨_, _, _, _, rfl, _⟩ := h
  rfl
theorem len_law_later {vs H Q E} (h : sp_law_later K vs H Q E) : vs.length = 2 := by
  obtain ⟨_, _, _, _, rfl, _⟩ := h
  rfl
theorem len_law_catcher {vs H Q E} (h : sp_law_catcher K vs H Q E) : vs.length = 2 := by
  obtain ⟨_, _, _, rfl, _⟩ := h
  rfl
theorem len_law_same {n vs H Q E} (h : sp_law_same n K vs H Q E) : vs.length = 2 := by
  obtain ⟨_, _, _, rfl, _⟩ := h
  rfl
theorem len_law_row_agrees {vs H Q E} (h : sp_law_row_agrees K vs H Q E) : vs.length = 2 := by
  obtain ⟨_, _, _, _, rfl, _⟩ := h
  rfl
theorem len_law_loops {vs H Q E} (h : sp_law_loops K vs H Q E) : vs.length = 1 := by
  obtain ⟨_, _, _, _, rfl, _⟩ := h
  rfl
theorem len_law_has {vs H Q E} (h : sp_law_has K vs H Q E) : vs.length = 2 := by
  obtain ⟨_, _, _, _, _, _, _, _, rfl, _⟩ := h
  rfl
theorem len_law {vs H Q E} (h : sp_law K vs H Q E) : vs.length = 1 := by
  obtain ⟨_, _, rfl, _⟩ := h
  rfl
theorem ok_law_box (T : Txt K w mg A) : FnOk P w K mg base CX0 1 A.a_law_box A.d_law_box ["script"] (sp_law_box K) :=
  wk_law_box T  (fun vs H Q E h => len_law_box h) (fun vs H Q E h => rd_law_box T h)
theorem ok_law_words (T : Txt K w mg A) : FnOk P w K mg base CX0 1 A.a_law_words A.d_law_words [] (sp_law_words K) :=
  wk_law_words T  (fun vs H Q E h => len_law_words h) (fun vs H Q E h => rd_law_words T h)
theorem ok_law_draw (T : Txt K w mg A) : FnOk P w K mg base CX0 1 A.a_law_draw A.d_law_draw ["box", "many"] (sp_law_draw K) :=
  wk_law_draw T  (fun vs H Q E h => len_law_draw h) (fun vs H Q E h => rd_law_draw T h)
theorem ok_law_reserved (T : Txt K w mg A) : FnOk P w K mg base CX0 1 A.a_law_reserved A.d_law_reserved [] (sp_law_reserved K) :=
  wk_law_reserved T  (fun vs H Q E h => len_law_reserved h) (fun vs H Q E h => rd_law_reserved T h)
theorem ok_law_word (T : Txt K w mg A) : FnOk P w K mg base CX0 2 A.a_law_word A.d_law_word ["box", "known"] (sp_law_word K) :=
  wk_law_word T (ok_law_draw T) (ok_law_reserved T) (fun vs H Q E h => len_law_word h) (fun vs H Q E h => rd_law_word T h)
theorem ok_law_value (T : Txt K w mg A) : FnOk P w K mg base CX0 3 A.a_law_value A.d_law_value ["box", "known"] (sp_law_value K) :=
  wk_law_value T (ok_law_draw T) (ok_law_word T) (fun vs H Q E h => len_law_value h) (fun vs H Q E h => rd_law_value T h)
theorem ok_law_row (T : Txt K w mg A) : FnOk P w K mg base CX0 4 A.a_law_row A.d_law_row ["box", "word", "many", "size", "known"] (sp_law_row K) :=
  wk_law_row T (ok_law_draw T) (ok_law_word T) (ok_law_value T) (fun vs H Q E h => len_law_row h) (fun vs H Q E h => rd_law_row T h)
theorem ok_law_drawn (T : Txt K w mg A) : FnOk P w K mg base CX0 5 A.a_law_drawn A.d_law_drawn ["box", "known"] (sp_law_drawn K) :=
  wk_law_drawn T (ok_law_words T) (ok_law_draw T) (ok_law_row T) (ok_law_word T) (fun vs H Q E h => len_law_drawn h) (fun vs H Q E h => rd_law_drawn T h)
theorem ok_Code_init (T : Txt K w mg A) : FnOk P w K mg base CX0 1 A.a_Code_init A.d_Code_init ["self", "name", "params", "size", "rows", "handlers"] (sp_Code_init K) :=
  wk_Code_init T  (fun vs H Q E h => len_Code_init h) (fun vs H Q E h => rd_Code_init T h)
theorem ok_law_read (T : Txt K w mg A) : FnOk P w K mg base CX0 1 A.a_law_read A.d_law_read ["row"] (sp_law_read K) :=
  wk_law_read T  (fun vs H Q E h => len_law_read h) (fun vs H Q E h => rd_law_read T h)
theorem ok_law_same (T : Txt K w mg A) : FnOk P w K mg base CX0 (1 + 5) A.a_law_same A.d_law_same ["value", "due"] (sp_law_same 5 K) :=
  wk_law_same T  (fun n vs H Q E h => len_law_same h) (fun vs H Q E h => zero_law_same h) (fun n vs H Q E h => rd_law_same T h) 5
theorem ok_slots_read (T : Txt K w mg A) : FnOk P w K mg base CX0 1 A.a_slots_read A.d_slots_read ["row"] (sp_slots_read K) :=
  wk_slots_read T  (fun vs H Q E h => len_slots_read h) (fun vs H Q E h => rd_slots_read T h)
theorem ok_uses (T : Txt K w mg A) : FnOk P w K mg base CX0 2 A.a_uses A.d_uses ["row"] (sp_uses K) :=
  wk_uses T (ok_slots_read T) (fun vs H Q E h => len_uses h) (fun vs H Q E h => rd_uses T h)
theorem ok_law_written (T : Txt K w mg A) : FnOk P w K mg base CX0 1 A.a_law_written A.d_law_written ["row"] (sp_law_written K) :=
  wk_law_written T  (fun vs H Q E h => len_law_written h) (fun vs H Q E h => rd_law_written T h)
theorem ok_target (T : Txt K w mg A) : FnOk P w K mg base CX0 1 A.a_target A.d_target ["row"] (sp_target K) :=
  wk_target T  (fun vs H Q E h => len_target h) (fun vs H Q E h => rd_target T h)
theorem ok_law_row_agrees (T : Txt K w mg A) : FnOk P w K mg base CX0 7 A.a_law_row_agrees A.d_law_row_agrees ["row", "size"] (sp_law_row_agrees K) :=
  wk_law_row_agrees T (ok_law_read T) (ok_law_same T) (ok_uses T) (ok_law_written T) (ok_target T) (fun vs H Q E h => len_law_row_agrees h) (fun vs H Q E h => rd_law_row_agrees T h)
theorem ok_law_later (T : Txt K w mg A) : FnOk P w K mg base CX0 1 A.a_law_later A.d_law_later ["rows", "at"] (sp_law_later K) :=
  wk_law_later T  (fun vs H Q E h => len_law_later h) (fun vs H Q E h => rd_law_later T h)
theorem ok_following (T : Txt K w mg A) : FnOk P w K mg base CX0 1 A.a_following A.d_following ["code", "pc"] (sp_following K) :=
  wk_following T  (fun vs H Q E h => len_following h) (fun vs H Q E h => rd_following T h)
theorem ok_law_catcher (T : Txt K w mg A) : FnOk P w K mg base CX0 1 A.a_law_catcher A.d_law_catcher ["handlers", "at"] (sp_law_catcher K) :=
  wk_law_catcher T  (fun vs H Q E h => len_law_catcher h) (fun vs H Q E h => rd_law_catcher T h)
theorem ok_handler_at (T : Txt K w mg A) : FnOk P w K mg base CX0 1 A.a_handler_at A.d_handler_at ["code", "pc"] (sp_handler_at K) :=
  wk_handler_at T  (fun vs H Q E h => len_handler_at h) (fun vs H Q E h => rd_handler_at T h)
theorem ok_law_loops (T : Txt K w mg A) : FnOk P w K mg base CX0 1 A.a_law_loops A.d_law_loops ["rows"] (sp_law_loops K) :=
  wk_law_loops T  (fun vs H Q E h => len_law_loops h) (fun vs H Q E h => rd_law_loops T h)
theorem ok_heads (T : Txt K w mg A) : FnOk P w K mg base CX0 1 A.a_heads A.d_heads ["code"] (sp_heads K) :=
  wk_heads T  (fun vs H Q E h => len_heads h) (fun vs H Q E h => rd_heads T h)
theorem ok_told_code (T : Txt K w mg A) : FnOk P w K mg base CX0 1 A.a_told_code A.d_told_code ["code"] (sp_told_code K) :=
  wk_told_code T  (fun vs H Q E h => len_told_code h) (fun vs H Q E h => rd_told_code T h)
theorem ok_code_of (T : Txt K w mg A) : FnOk P w K mg base CX0 3 A.a_code_of A.d_code_of ["told"] (sp_code_of K) :=
  wk_code_of T (ok_Code_init T) (fun vs H Q E h => len_code_of h) (fun vs H Q E h => rd_code_of T h)
theorem ok_law_has (T : Txt K w mg A) : FnOk P w K mg base CX0 7 A.a_law_has A.d_law_has ["code", "drawn"] (sp_law_has K) :=
  wk_law_has T (ok_law_same T) (fun vs H Q E h => len_law_has h) (fun vs H Q E h => rd_law_has T h)
theorem ok_law (T : Txt K w mg A) : FnOk P w K mg base CX0 8 A.a_law A.d_law ["script"] (sp_law K) :=
  wk_law T (ok_law_box T) (ok_law_drawn T) (ok_Code_init T) (ok_law_words T) (ok_law_row_agrees T) (ok_law_row T) (ok_law_same T) (ok_law_later T) (ok_following T) (ok_law_catcher T) (ok_handler_at T) (ok_law_loops T) (ok_heads T) (ok_told_code T) (ok_code_of T) (ok_law_has T) (fun vs H Q E h => len_law h) (fun vs H Q E h => rd_law T h)
end
theorem all_mk {l : PySem.W.OpenLaw} {w : World} {K : PySem.W.Frag} {h : Heap} {mg : Str → Option Value} {fa : Addr} (X : K.In h) (G : h.Ns mainGlobals mg) (hfa : mg "law" = some (.ref fa))
    {f_handler_at f_slots_read f_uses f_target f_following f_heads f_Code_init f_told_code f_code_of f_law_box f_law_draw f_law_reserved f_law_word f_law_value f_law_row f_law_words f_law_drawn f_law_read f_law_written f_law_later f_law_catcher f_law_same f_law_row_agrees f_law_loops f_law_has f_law C_Code c_LISTS c_READS c_WRITES : Addr}
    {od_handler_at an_handler_at od_slots_read an_slots_read od_uses an_uses od_target an_target od_following an_following od_heads an_heads od_Code_init an_Code_init od_told_code an_told_code od_code_of an_code_of od_law_box an_law_box od_law_draw an_law_draw od_law_reserved an_law_reserved od_law_word an_law_word od_law_value an_law_value od_law_row an_law_row od_law_words an_law_words od_law_drawn an_law_drawn od_law_read an_law_read od_law_written an_law_written od_law_later an_law_later od_law_catcher an_law_catcher od_law_same an_law_same od_law_row_agrees an_law_row_agrees od_law_loops an_law_loops od_law_has an_law_has od_law an_law : Option Addr}
    {sl_handler_at sl_slots_read sl_uses sl_target sl_following sl_heads sl_Code_init sl_told_code sl_code_of sl_law_box sl_law_draw sl_law_reserved sl_law_word sl_law_value sl_law_row sl_law_words sl_law_drawn sl_law_read sl_law_written sl_law_later sl_law_catcher sl_law_same sl_law_row_agrees sl_law_loops sl_law_has sl_law : Array (Option Value)}
    {oc_handler_at kV_handler_at dc_handler_at pm_handler_at cd_handler_at ct_handler_at oc_slots_read kV_slots_read dc_slots_read pm_slots_read cd_slots_read ct_slots_read oc_uses kV_uses dc_uses pm_uses cd_uses ct_uses oc_target kV_target dc_target pm_target cd_target ct_target oc_following kV_following dc_following pm_following cd_following ct_following oc_heads kV_heads dc_heads pm_heads cd_heads ct_heads oc_Code_init kV_Code_init dc_Code_init pm_Code_init cd_Code_init ct_Code_init oc_told_code kV_told_code dc_told_code pm_told_code cd_told_code ct_told_code oc_code_of kV_code_of dc_code_of pm_code_of cd_code_of ct_code_of oc_law_box kV_law_box dc_law_box pm_law_box cd_law_box ct_law_box oc_law_draw kV_law_draw dc_law_draw pm_law_draw cd_law_draw ct_law_draw oc_law_reserved kV_law_reserved dc_law_reserved pm_law_reserved cd_law_reserved ct_law_reserved oc_law_word kV_law_word dc_law_word pm_law_word cd_law_word ct_law_word oc_law_value kV_law_value dc_law_value pm_law_value cd_law_value ct_law_value oc_law_row kV_law_row dc_law_row pm_law_row cd_law_row ct_law_row oc_law_words kV_law_words dc_law_words pm_law_words cd_law_words ct_law_words oc_law_drawn kV_law_drawn dc_law_drawn pm_law_drawn cd_law_drawn ct_law_drawn oc_law_read kV_law_read dc_law_read pm_law_read cd_law_read ct_law_read oc_law_written kV_law_written dc_law_written pm_law_written cd_law_written ct_law_written oc_law_later kV_law_later dc_law_later pm_law_later cd_law_later ct_law_later oc_law_catcher kV_law_catcher dc_law_catcher pm_law_catcher cd_law_catcher ct_law_catcher oc_law_same kV_law_same dc_law_same pm_law_same cd_law_same ct_law_same oc_law_row_agrees kV_law_row_agrees dc_law_row_agrees pm_law_row_agrees cd_law_row_agrees ct_law_row_agrees oc_law_loops kV_law_loops dc_law_loops pm_law_loops cd_law_loops ct_law_loops oc_law_has kV_law_has dc_law_has pm_law_has cd_law_has ct_law_has oc_law kV_law dc_law pm_law cd_law ct_law : Value}
    {es_LISTS : Array DictEntry} {ep_LISTS : Nat}
    {wq_LISTS_0 : Tok}
    {wq_LISTS_1 : Tok}
    {wq_LISTS_2 : Tok}
    {wq_LISTS_3 : Tok}
    {es_READS : Array DictEntry} {ep_READS : Nat}
    {wt_READS_0 : Addr} {wd_READS_0 : Option Addr} {wn_READS_0 : Nat} {ws_READS_0 : Array (Option Value)}
    {wt_READS_1 : Addr} {wd_READS_1 : Option Addr} {wn_READS_1 : Nat} {ws_READS_1 : Array (Option Value)} {wq_READS_1_0 : Tok}
    {wt_READS_2 : Addr} {wd_READS_2 : Option Addr} {wn_READS_2 : Nat} {ws_READS_2 : Array (Option Value)} {wq_READS_2_0 wq_READS_2_1 : Tok}
    {wt_READS_3 : Addr} {wd_READS_3 : Option Addr} {wn_READS_3 : Nat} {ws_READS_3 : Array (Option Value)} {wq_READS_3_0 : Tok}
    {wt_READS_4 : Addr} {wd_READS_4 : Option Addr} {wn_READS_4 : Nat} {ws_READS_4 : Array (Option Value)}
    {wt_READS_5 : Addr} {wd_READS_5 : Option Addr} {wn_READS_5 : Nat} {ws_READS_5 : Array (Option Value)} {wq_READS_5_0 : Tok}
    {wt_READS_6 : Addr} {wd_READS_6 : Option Addr} {wn_READS_6 : Nat} {ws_READS_6 : Array (Option Value)}
    {wt_READS_7 : Addr} {wd_READS_7 : Option Addr} {wn_READS_7 : Nat} {ws_READS_7 : Array (Option Value)} {wq_READS_7_0 : Tok}
    {wt_READS_8 : Addr} {wd_READS_8 : Option Addr} {wn_READS_8 : Nat} {ws_READS_8 : Array (Option Value)}
    {wt_READS_9 : Addr} {wd_READS_9 : Option Addr} {wn_READS_9 : Nat} {ws_READS_9 : Array (Option Value)} {wq_READS_9_0 : Tok}
    {wt_READS_10 : Addr} {wd_READS_10 : Option Addr} {wn_READS_10 : Nat} {ws_READS_10 : Array (Option Value)} {wq_READS_10_0 wq_READS_10_1 : Tok}
    {wt_READS_11 : Addr} {wd_READS_11 : Option Addr} {wn_READS_11 : Nat} {ws_READS_11 : Array (Option Value)} {wq_READS_11_0 : Tok}
    {wt_READS_12 : Addr} {wd_READS_12 : Option Addr} {wn_READS_12 : Nat} {ws_READS_12 : Array (Option Value)} {wq_READS_12_0 : Tok}
    {wt_READS_13 : Addr} {wd_READS_13 : Option Addr} {wn_READS_13 : Nat} {ws_READS_13 : Array (Option Value)} {wq_READS_13_0 wq_READS_13_1 : Tok}
    {wt_READS_14 : Addr} {wd_READS_14 : Option Addr} {wn_READS_14 : Nat} {ws_READS_14 : Array (Option Value)} {wq_READS_14_0 wq_READS_14_1 wq_READS_14_2 : Tok}
    {wt_READS_15 : Addr} {wd_READS_15 : Option Addr} {wn_READS_15 : Nat} {ws_READS_15 : Array (Option Value)} {wq_READS_15_0 : Tok}
    {wt_READS_16 : Addr} {wd_READS_16 : Option Addr} {wn_READS_16 : Nat} {ws_READS_16 : Array (Option Value)}
    {wt_READS_17 : Addr} {wd_READS_17 : Option Addr} {wn_READS_17 : Nat} {ws_READS_17 : Array (Option Value)} {wq_READS_17_0 : Tok}
    {wt_READS_18 : Addr} {wd_READS_18 : Option Addr} {wn_READS_18 : Nat} {ws_READS_18 : Array (Option Value)} {wq_READS_18_0 : Tok}
    {wt_READS_19 : Addr} {wd_READS_19 : Option Addr} {wn_READS_19 : Nat} {ws_READS_19 : Array (Option Value)} {wq_READS_19_0 : Tok}
    {wt_READS_20 : Addr} {wd_READS_20 : Option Addr} {wn_READS_20 : Nat} {ws_READS_20 : Array (Option Value)} {wq_READS_20_0 : Tok}
    {wt_READS_21 : Addr} {wd_READS_21 : Option Addr} {wn_READS_21 : Nat} {ws_READS_21 : Array (Option Value)} {wq_READS_21_0 : Tok}
    {wt_READS_22 : Addr} {wd_READS_22 : Option Addr} {wn_READS_22 : Nat} {ws_READS_22 : Array (Option Value)} {wq_READS_22_0 : Tok}
    {wt_READS_23 : Addr} {wd_READS_23 : Option Addr} {wn_READS_23 : Nat} {ws_READS_23 : Array (Option Value)}
    {wt_READS_24 : Addr} {wd_READS_24 : Option Addr} {wn_READS_24 : Nat} {ws_READS_24 : Array (Option Value)}
    {es_WRITES : Array DictEntry} {ep_WRITES : Nat}
    {wq_WRITES_0 : Tok}
    {wq_WRITES_1 : Tok}
    {wq_WRITES_2 : Tok}
    {wq_WRITES_3 : Tok}
    {wq_WRITES_4 : Tok}
    {wq_WRITES_5 : Tok}
    {wq_WRITES_6 : Tok}
    {wq_WRITES_7 : Tok}
    {wq_WRITES_8 : Tok}
    {wq_WRITES_9 : Tok}
    {wq_WRITES_10 : Tok}
    {wq_WRITES_11 : Tok}
    {wq_WRITES_12 : Tok}
    (gc_Code : PySem.W.nsIn K mainGlobals "Code" = some (some (.ref C_Code)))
    (pg_Code : PySem.W.plainGet K C_Code Str.empty = true)
    (hd_Code : PySem.W.hasDictIn K C_Code = true)
    (po_Code : PySem.W.plainOver K C_Code = true)
    (sa_Code : PySem.W.findIn K (.ref C_Code) "__setattr__" = some (some (.builtin "object.__setattr__")))
    (mk_Code : PySem.W.makesIn K C_Code = true)
    (kc_Code : PySem.W.keepIn K (.ref C_Code) = true)
    (na_Code_name : PySem.W.findIn K (.ref C_Code) "name" = some none)
    (na_Code_params : PySem.W.findIn K (.ref C_Code) "params" = some none)
    (na_Code_size : PySem.W.findIn K (.ref C_Code) "size" = some none)
    (na_Code_rows : PySem.W.findIn K (.ref C_Code) "rows" = some none)
    (na_Code_handlers : PySem.W.findIn K (.ref C_Code) "handlers" = some none)
    (na_Code_known_live : PySem.W.findIn K (.ref C_Code) "known_live" = some none)
    (a_handler_at : PySem.W.nsIn K mainGlobals "handler_at" = some (some (.ref f_handler_at)))
    (l_handler_at : K.lookup f_handler_at = some ⟨oc_handler_at, od_handler_at, .func (PySem.W.fnOf "handler_at" "handler_at" (defArgs s_handler_at) (defBody s_handler_at) (defScope s_handler_at) .none kV_handler_at dc_handler_at pm_handler_at an_handler_at cd_handler_at ct_handler_at), sl_handler_at⟩)
    (c_handler_at : PySem.W.codeIn K cd_handler_at "handler_at" = true)
    (k_handler_at : PySem.W.keepIn K (.ref f_handler_at) = true)
    (a_slots_read : PySem.W.nsIn K mainGlobals "slots_read" = some (some (.ref f_slots_read)))
    (l_slots_read : K.lookup f_slots_read = some ⟨oc_slots_read, od_slots_read, .func (PySem.W.fnOf "slots_read" "slots_read" (defArgs s_slots_read) (defBody s_slots_read) (defScope s_slots_read) .none kV_slots_read dc_slots_read pm_slots_read an_slots_read cd_slots_read ct_slots_read), sl_slots_read⟩)
    (c_slots_read : PySem.W.codeIn K cd_slots_read "slots_read" = true)
    (k_slots_read : PySem.W.keepIn K (.ref f_slots_read) = true)
    (a_uses : PySem.W.nsIn K mainGlobals "uses" = some (some (.ref f_uses)))
    (l_uses : K.lookup f_uses = some ⟨oc_uses, od_uses, .func (PySem.W.fnOf "uses" "uses" (defArgs s_uses) (defBody s_uses) (defScope s_uses) .none kV_uses dc_uses pm_uses an_uses cd_uses ct_uses), sl_uses⟩)
    (c_uses : PySem.W.codeIn K cd_uses "uses" = true)
    (k_uses : PySem.W.keepIn K (.ref f_uses) = true)
    (a_target : PySem.W.nsIn K mainGlobals "target" = some (some (.ref f_target)))
    (l_target : K.lookup f_target = some ⟨oc_target, od_target, .func (PySem.W.fnOf "target" "target" (defArgs s_target) (defBody s_target) (defScope s_target) .none kV_target dc_target pm_target an_target cd_target ct_target), sl_target⟩)
    (c_target : PySem.W.codeIn K cd_target "target" = true)
    (k_target : PySem.W.keepIn K (.ref f_target) = true)
    (a_following : PySem.W.nsIn K mainGlobals "following" = some (some (.ref f_following)))
    (l_following : K.lookup f_following = some ⟨oc_following, od_following, .func (PySem.W.fnOf "following" "following" (defArgs s_following) (defBody s_following) (defScope s_following) .none kV_following dc_following pm_following an_following cd_following ct_following), sl_following⟩)
    (c_following : PySem.W.codeIn K cd_following "following" = true)
    (k_following : PySem.W.keepIn K (.ref f_following) = true)
    (a_heads : PySem.W.nsIn K mainGlobals "heads" = some (some (.ref f_heads)))
    (l_heads : K.lookup f_heads = some ⟨oc_heads, od_heads, .func (PySem.W.fnOf "heads" "heads" (defArgs s_heads) (defBody s_heads) (defScope s_heads) .none kV_heads dc_heads pm_heads an_heads cd_heads ct_heads), sl_heads⟩)
    (c_heads : PySem.W.codeIn K cd_heads "heads" = true)
    (k_heads : PySem.W.keepIn K (.ref f_heads) = true)
    (a_Code_init : PySem.W.findIn K (.ref C_Code) "__init__" = some (some (.ref f_Code_init)))
    (i_Code_init : PySem.W.isFn K (.ref f_Code_init) = true)
    (l_Code_init : K.lookup f_Code_init = some ⟨oc_Code_init, od_Code_init, .func (PySem.W.fnOf "__init__" "Code.__init__" (defArgs s_Code_init) (defBody s_Code_init) (defScope s_Code_init) .none kV_Code_init dc_Code_init pm_Code_init an_Code_init cd_Code_init ct_Code_init), sl_Code_init⟩)
    (c_Code_init : PySem.W.codeIn K cd_Code_init "Code.__init__" = true)
    (k_Code_init : PySem.W.keepIn K (.ref f_Code_init) = true)
    (a_told_code : PySem.W.nsIn K mainGlobals "told_code" = some (some (.ref f_told_code)))
    (l_told_code : K.lookup f_told_code = some ⟨oc_told_code, od_told_code, .func (PySem.W.fnOf "told_code" "told_code" (defArgs s_told_code) (defBody s_told_code) (defScope s_told_code) .none kV_told_code dc_told_code pm_told_code an_told_code cd_told_code ct_told_code), sl_told_code⟩)
    (c_told_code : PySem.W.codeIn K cd_told_code "told_code" = true)
    (k_told_code : PySem.W.keepIn K (.ref f_told_code) = true)
    (a_code_of : PySem.W.nsIn K mainGlobals "code_of" = some (some (.ref f_code_of)))
    (l_code_of : K.lookup f_code_of = some ⟨oc_code_of, od_code_of, .func (PySem.W.fnOf "code_of" "code_of" (defArgs s_code_of) (defBody s_code_of) (defScope s_code_of) .none kV_code_of dc_code_of pm_code_of an_code_of cd_code_of ct_code_of), sl_code_of⟩)
    (c_code_of : PySem.W.codeIn K cd_code_of "code_of" = true)
    (k_code_of : PySem.W.keepIn K (.ref f_code_of) = true)
    (a_law_box : PySem.W.nsIn K mainGlobals "_law_box" = some (some (.ref f_law_box)))
    (l_law_box : K.lookup f_law_box = some ⟨oc_law_box, od_law_box, .func (PySem.W.fnOf "_law_box" "_law_box" (defArgs s_law_box) (defBody s_law_box) (defScope s_law_box) .none kV_law_box dc_law_box pm_law_box an_law_box cd_law_box ct_law_box), sl_law_box⟩)
    (c_law_box : PySem.W.codeIn K cd_law_box "_law_box" = true)
    (k_law_box : PySem.W.keepIn K (.ref f_law_box) = true)
    (a_law_draw : PySem.W.nsIn K mainGlobals "_law_draw" = some (some (.ref f_law_draw)))
    (l_law_draw : K.lookup f_law_draw = some ⟨oc_law_draw, od_law_draw, .func (PySem.W.fnOf "_law_draw" "_law_draw" (defArgs s_law_draw) (defBody s_law_draw) (defScope s_law_draw) .none kV_law_draw dc_law_draw pm_law_draw an_law_draw cd_law_draw ct_law_draw), sl_law_draw⟩)
    (c_law_draw : PySem.W.codeIn K cd_law_draw "_law_draw" = true)
    (k_law_draw : PySem.W.keepIn K (.ref f_law_draw) = true)
    (a_law_reserved : PySem.W.nsIn K mainGlobals "_law_reserved" = some (some (.ref f_law_reserved)))
    (l_law_reserved : K.lookup f_law_reserved = some ⟨oc_law_reserved, od_law_reserved, .func (PySem.W.fnOf "_law_reserved" "_law_reserved" (defArgs s_law_reserved) (defBody s_law_reserved) (defScope s_law_reserved) .none kV_law_reserved dc_law_reserved pm_law_reserved an_law_reserved cd_law_reserved ct_law_reserved), sl_law_reserved⟩)
    (c_law_reserved : PySem.W.codeIn K cd_law_reserved "_law_reserved" = true)
    (k_law_reserved : PySem.W.keepIn K (.ref f_law_reserved) = true)
    (a_law_word : PySem.W.nsIn K mainGlobals "_law_word" = some (some (.ref f_law_word)))
    (l_law_word : K.lookup f_law_word = some ⟨oc_law_word, od_law_word, .func (PySem.W.fnOf "_law_word" "_law_word" (defArgs s_law_word) (defBody s_law_word) (defScope s_law_word) .none kV_law_word dc_law_word pm_law_word an_law_word cd_law_word ct_law_word), sl_law_word⟩)
    (c_law_word : PySem.W.codeIn K cd_law_word "_law_word" = true)
    (k_law_word : PySem.W.keepIn K (.ref f_law_word) = true)
    (a_law_value : PySem.W.nsIn K mainGlobals "_law_value" = some (some (.ref f_law_value)))
    (l_law_value : K.lookup f_law_value = some ⟨oc_law_value, od_law_value, .func (PySem.W.fnOf "_law_value" "_law_value" (defArgs s_law_value) (defBody s_law_value) (defScope s_law_value) .none kV_law_value dc_law_value pm_law_value an_law_value cd_law_value ct_law_value), sl_law_value⟩)
    (c_law_value : PySem.W.codeIn K cd_law_value "_law_value" = true)
    (k_law_value : PySem.W.keepIn K (.ref f_law_value) = true)
    (a_law_row : PySem.W.nsIn K mainGlobals "_law_row" = some (some (.ref f_law_row)))
    (l_law_row : K.lookup f_law_row = some ⟨oc_law_row, od_law_row, .func (PySem.W.fnOf "_law_row" "_law_row" (defArgs s_law_row) (defBody s_law_row) (defScope s_law_row) .none kV_law_row dc_law_row pm_law_row an_law_row cd_law_row ct_law_row), sl_law_row⟩)
    (c_law_row : PySem.W.codeIn K cd_law_row "_law_row" = true)
    (k_law_row : PySem.W.keepIn K (.ref f_law_row) = true)
    (a_law_words : PySem.W.nsIn K mainGlobals "_law_words" = some (some (.ref f_law_words)))
    (l_law_words : K.lookup f_law_words = some ⟨oc_law_words, od_law_words, .func (PySem.W.fnOf "_law_words" "_law_words" (defArgs s_law_words) (defBody s_law_words) (defScope s_law_words) .none kV_law_words dc_law_words pm_law_words an_law_words cd_law_words ct_law_words), sl_law_words⟩)
    (c_law_words : PySem.W.codeIn K cd_law_words "_law_words" = true)
    (k_law_words : PySem.W.keepIn K (.ref f_law_words) = true)
    (a_law_drawn : PySem.W.nsIn K mainGlobals "_law_drawn" = some (some (.ref f_law_drawn)))
    (l_law_drawn : K.lookup f_law_drawn = some ⟨oc_law_drawn, od_law_drawn, .func (PySem.W.fnOf "_law_drawn" "_law_drawn" (defArgs s_law_drawn) (defBody s_law_drawn) (defScope s_law_drawn) .none kV_law_drawn dc_law_drawn pm_law_drawn an_law_drawn cd_law_drawn ct_law_drawn), sl_law_drawn⟩)
    (c_law_drawn : PySem.W.codeIn K cd_law_drawn "_law_drawn" = true)
    (k_law_drawn : PySem.W.keepIn K (.ref f_law_drawn) = true)
    (a_law_read : PySem.W.nsIn K mainGlobals "_law_read" = some (some (.ref f_law_read)))
    (l_law_read : K.lookup f_law_read = some ⟨oc_law_read, od_law_read, .func (PySem.W.fnOf "_law_read" "_law_read" (defArgs s_law_read) (defBody s_law_read) (defScope s_law_read) .none kV_law_read dc_law_read pm_law_read an_law_read cd_law_read ct_law_read), sl_law_read⟩)
    (c_law_read : PySem.W.codeIn K cd_law_read "_law_read" = true)
    (k_law_read : PySem.W.keepIn K (.ref f_law_read) = true)
    (a_law_written : PySem.W.nsIn K mainGlobals "_law_written" = some (some (.ref f_law_written)))
    (l_law_written : K.lookup f_law_written = some ⟨oc_law_written, od_law_written, .func (PySem.W.fnOf "_law_written" "_law_written" (defArgs s_law_written) (defBody s_law_written) (defScope s_law_written) .none kV_law_written dc_law_written pm_law_written an_law_written cd_law_written ct_law_written), sl_law_written⟩)
    (c_law_written : PySem.W.codeIn K cd_law_written "_law_written" = true)
    (k_law_written : PySem.W.keepIn K (.ref f_law_written) = true)
    (a_law_later : PySem.W.nsIn K mainGlobals "_law_later" = some (some (.ref f_law_later)))
    (l_law_later : K.lookup f_law_later = some ⟨oc_law_later, od_law_later, .func (PySem.W.fnOf "_law_later" "_law_later" (defArgs s_law_later) (defBody s_law_later) (defScope s_law_later) .none kV_law_later dc_law_later pm_law_later an_law_later cd_law_later ct_law_later), sl_law_later⟩)
    (c_law_later : PySem.W.codeIn K cd_law_later "_law_later" = true)
    (k_law_later : PySem.W.keepIn K (.ref f_law_later) = true)
    (a_law_catcher : PySem.W.nsIn K mainGlobals "_law_catcher" = some (some (.ref f_law_catcher)))
    (l_law_catcher : K.lookup f_law_catcher = some ⟨oc_law_catcher, od_law_catcher, .func (PySem.W.fnOf "_law_catcher" "_law_catcher" (defArgs s_law_catcher) (defBody s_law_catcher) (defScope s_law_catcher) .none kV_law_catcher dc_law_catcher pm_law_catcher an_law_catcher cd_law_catcher ct_law_catcher), sl_law_catcher⟩)
    (c_law_catcher : PySem.W.codeIn K cd_law_catcher "_law_catcher" = true)
    (k_law_catcher : PySem.W.keepIn K (.ref f_law_catcher) = true)
    (a_law_same : PySem.W.nsIn K mainGlobals "_law_same" = some (some (.ref f_law_same)))
    (l_law_same : K.lookup f_law_same = some ⟨oc_law_same, od_law_same, .func (PySem.W.fnOf "_law_same" "_law_same" (defArgs s_law_same) (defBody s_law_same) (defScope s_law_same) .none kV_law_same dc_law_same pm_law_same an_law_same cd_law_same ct_law_same), sl_law_same⟩)
    (c_law_same : PySem.W.codeIn K cd_law_same "_law_same" = true)
    (k_law_same : PySem.W.keepIn K (.ref f_law_same) = true)
    (a_law_row_agrees : PySem.W.nsIn K mainGlobals "_law_row_agrees" = some (some (.ref f_law_row_agrees)))
    (l_law_row_agrees : K.lookup f_law_row_agrees = some ⟨oc_law_row_agrees, od_law_row_agrees, .func (PySem.W.fnOf "_law_row_agrees" "_law_row_agrees" (defArgs s_law_row_agrees) (defBody s_law_row_agrees) (defScope s_law_row_agrees) .none kV_law_row_agrees dc_law_row_agrees pm_law_row_agrees an_law_row_agrees cd_law_row_agrees ct_law_row_agrees), sl_law_row_agrees⟩)
    (c_law_row_agrees : PySem.W.codeIn K cd_law_row_agrees "_law_row_agrees" = true)
    (k_law_row_agrees : PySem.W.keepIn K (.ref f_law_row_agrees) = true)
    (a_law_loops : PySem.W.nsIn K mainGlobals "_law_loops" = some (some (.ref f_law_loops)))
    (l_law_loops : K.lookup f_law_loops = some ⟨oc_law_loops, od_law_loops, .func (PySem.W.fnOf "_law_loops" "_law_loops" (defArgs s_law_loops) (defBody s_law_loops) (defScope s_law_loops) .none kV_law_loops dc_law_loops pm_law_loops an_law_loops cd_law_loops ct_law_loops), sl_law_loops⟩)
    (c_law_loops : PySem.W.codeIn K cd_law_loops "_law_loops" = true)
    (k_law_loops : PySem.W.keepIn K (.ref f_law_loops) = true)
    (a_law_has : PySem.W.nsIn K mainGlobals "_law_has" = some (some (.ref f_law_has)))
    (l_law_has : K.lookup f_law_has = some ⟨oc_law_has, od_law_has, .func (PySem.W.fnOf "_law_has" "_law_has" (defArgs s_law_has) (defBody s_law_has) (defScope s_law_has) .none kV_law_has dc_law_has pm_law_has an_law_has cd_law_has ct_law_has), sl_law_has⟩)
    (c_law_has : PySem.W.codeIn K cd_law_has "_law_has" = true)
    (k_law_has : PySem.W.keepIn K (.ref f_law_has) = true)
    (a_law : PySem.W.nsIn K mainGlobals "law" = some (some (.ref f_law)))
    (l_law : K.lookup f_law = some ⟨oc_law, od_law, .func (PySem.W.fnOf "law" "law" (defArgs s_law) (defBody s_law) (defScope s_law) .none kV_law dc_law pm_law an_law cd_law ct_law), sl_law⟩)
    (c_law : PySem.W.codeIn K cd_law "law" = true)
    (k_law : PySem.W.keepIn K (.ref f_law) = true)
    (n_all : PySem.W.nsIn K mainGlobals "all" = some none)
    (n_bool : PySem.W.nsIn K mainGlobals "bool" = some none)
    (n_enumerate : PySem.W.nsIn K mainGlobals "enumerate" = some none)
    (n_int : PySem.W.nsIn K mainGlobals "int" = some none)
    (n_isinstance : PySem.W.nsIn K mainGlobals "isinstance" = some none)
    (n_len : PySem.W.nsIn K mainGlobals "len" = some none)
    (n_list : PySem.W.nsIn K mainGlobals "list" = some none)
    (n_range : PySem.W.nsIn K mainGlobals "range" = some none)
    (n_set : PySem.W.nsIn K mainGlobals "set" = some none)
    (n_sorted : PySem.W.nsIn K mainGlobals "sorted" = some none)
    (n_str : PySem.W.nsIn K mainGlobals "str" = some none)
    (n_tuple : PySem.W.nsIn K mainGlobals "tuple" = some none)
    (wg_LISTS : PySem.W.nsIn K mainGlobals "LISTS" = some (some (.ref c_LISTS)))
    (wl_LISTS : K.lookup c_LISTS = some ⟨.type "dict", none, .dict es_LISTS ep_LISTS, #[]⟩)
    (wk_LISTS : PySem.W.KeysLit w.params es_LISTS.toList)
    (wo_LISTS : (c_LISTS == sysModules) = false)
    (wx_LISTS_0 : PySem.W.nsIn K c_LISTS "call" = some (some (.int 3 wq_LISTS_0)))
    (wx_LISTS_1 : PySem.W.nsIn K c_LISTS "callv" = some (some (.int 3 wq_LISTS_1)))
    (wx_LISTS_2 : PySem.W.nsIn K c_LISTS "method" = some (some (.int 4 wq_LISTS_2)))
    (wx_LISTS_3 : PySem.W.nsIn K c_LISTS "spawn" = some (some (.int 2 wq_LISTS_3)))
    (wx_LISTS_4 : PySem.W.nsIn K c_LISTS "const" = some none)
    (wx_LISTS_5 : PySem.W.nsIn K c_LISTS "move" = some none)
    (wx_LISTS_6 : PySem.W.nsIn K c_LISTS "op" = some none)
    (wx_LISTS_7 : PySem.W.nsIn K c_LISTS "not" = some none)
    (wx_LISTS_8 : PySem.W.nsIn K c_LISTS "jump" = some none)
    (wx_LISTS_9 : PySem.W.nsIn K c_LISTS "branch" = some none)
    (wx_LISTS_10 : PySem.W.nsIn K c_LISTS "getg" = some none)
    (wx_LISTS_11 : PySem.W.nsIn K c_LISTS "setg" = some none)
    (wx_LISTS_12 : PySem.W.nsIn K c_LISTS "new" = some none)
    (wx_LISTS_13 : PySem.W.nsIn K c_LISTS "get" = some none)
    (wx_LISTS_14 : PySem.W.nsIn K c_LISTS "put" = some none)
    (wx_LISTS_15 : PySem.W.nsIn K c_LISTS "drop" = some none)
    (wx_LISTS_16 : PySem.W.nsIn K c_LISTS "array" = some none)
    (wx_LISTS_17 : PySem.W.nsIn K c_LISTS "at" = some none)
    (wx_LISTS_18 : PySem.W.nsIn K c_LISTS "setat" = some none)
    (wx_LISTS_19 : PySem.W.nsIn K c_LISTS "len" = some none)
    (wx_LISTS_20 : PySem.W.nsIn K c_LISTS "return" = some none)
    (wx_LISTS_21 : PySem.W.nsIn K c_LISTS "say" = some none)
    (wx_LISTS_22 : PySem.W.nsIn K c_LISTS "fail" = some none)
    (wx_LISTS_23 : PySem.W.nsIn K c_LISTS "load" = some none)
    (wx_LISTS_24 : PySem.W.nsIn K c_LISTS "pause" = some none)
    (wg_READS : PySem.W.nsIn K mainGlobals "READS" = some (some (.ref c_READS)))
    (wl_READS : K.lookup c_READS = some ⟨.type "dict", none, .dict es_READS ep_READS, #[]⟩)
    (wk_READS : PySem.W.KeysLit w.params es_READS.toList)
    (wo_READS : (c_READS == sysModules) = false)
    (wx_READS_0 : PySem.W.nsIn K c_READS "const" = some (some (.ref wt_READS_0)))
    (wy_READS_0 : K.lookup wt_READS_0 = some ⟨.type "tuple", wd_READS_0, .seq #[] wn_READS_0, ws_READS_0⟩)
    (wx_READS_1 : PySem.W.nsIn K c_READS "move" = some (some (.ref wt_READS_1)))
    (wy_READS_1 : K.lookup wt_READS_1 = some ⟨.type "tuple", wd_READS_1, .seq #[.int 2 wq_READS_1_0] wn_READS_1, ws_READS_1⟩)
    (wx_READS_2 : PySem.W.nsIn K c_READS "op" = some (some (.ref wt_READS_2)))
    (wy_READS_2 : K.lookup wt_READS_2 = some ⟨.type "tuple", wd_READS_2, .seq #[.int 3 wq_READS_2_0, .int 4 wq_READS_2_1] wn_READS_2, ws_READS_2⟩)
    (wx_READS_3 : PySem.W.nsIn K c_READS "not" = some (some (.ref wt_READS_3)))
    (wy_READS_3 : K.lookup wt_READS_3 = some ⟨.type "tuple", wd_READS_3, .seq #[.int 2 wq_READS_3_0] wn_READS_3, ws_READS_3⟩)
    (wx_READS_4 : PySem.W.nsIn K c_READS "jump" = some (some (.ref wt_READS_4)))
    (wy_READS_4 : K.lookup wt_READS_4 = some ⟨.type "tuple", wd_READS_4, .seq #[] wn_READS_4, ws_READS_4⟩)
    (wx_READS_5 : PySem.W.nsIn K c_READS "branch" = some (some (.ref wt_READS_5)))
    (wy_READS_5 : K.lookup wt_READS_5 = some ⟨.type "tuple", wd_READS_5, .seq #[.int 1 wq_READS_5_0] wn_READS_5, ws_READS_5⟩)
    (wx_READS_6 : PySem.W.nsIn K c_READS "getg" = some (some (.ref wt_READS_6)))
    (wy_READS_6 : K.lookup wt_READS_6 = some ⟨.type "tuple", wd_READS_6, .seq #[] wn_READS_6, ws_READS_6⟩)
    (wx_READS_7 : PySem.W.nsIn K c_READS "setg" = some (some (.ref wt_READS_7)))
    (wy_READS_7 : K.lookup wt_READS_7 = some ⟨.type "tuple", wd_READS_7, .seq #[.int 2 wq_READS_7_0] wn_READS_7, ws_READS_7⟩)
    (wx_READS_8 : PySem.W.nsIn K c_READS "new" = some (some (.ref wt_READS_8)))
    (wy_READS_8 : K.lookup wt_READS_8 = some ⟨.type "tuple", wd_READS_8, .seq #[] wn_READS_8, ws_READS_8⟩)
    (wx_READS_9 : PySem.W.nsIn K c_READS "get" = some (some (.ref wt_READS_9)))
    (wy_READS_9 : K.lookup wt_READS_9 = some ⟨.type "tuple", wd_READS_9, .seq #[.int 2 wq_READS_9_0] wn_READS_9, ws_READS_9⟩)
    (wx_READS_10 : PySem.W.nsIn K c_READS "put" = some (some (.ref wt_READS_10)))
    (wy_READS_10 : K.lookup wt_READS_10 = some ⟨.type "tuple", wd_READS_10, .seq #[.int 1 wq_READS_10_0, .int 3 wq_READS_10_1] wn_READS_10, ws_READS_10⟩)
    (wx_READS_11 : PySem.W.nsIn K c_READS "drop" = some (some (.ref wt_READS_11)))
    (wy_READS_11 : K.lookup wt_READS_11 = some ⟨.type "tuple", wd_READS_11, .seq #[.int 1 wq_READS_11_0] wn_READS_11, ws_READS_11⟩)
    (wx_READS_12 : PySem.W.nsIn K c_READS "array" = some (some (.ref wt_READS_12)))
    (wy_READS_12 : K.lookup wt_READS_12 = some ⟨.type "tuple", wd_READS_12, .seq #[.int 2 wq_READS_12_0] wn_READS_12, ws_READS_12⟩)
    (wx_READS_13 : PySem.W.nsIn K c_READS "at" = some (some (.ref wt_READS_13)))
    (wy_READS_13 : K.lookup wt_READS_13 = some ⟨.type "tuple", wd_READS_13, .seq #[.int 2 wq_READS_13_0, .int 3 wq_READS_13_1] wn_READS_13, ws_READS_13⟩)
    (wx_READS_14 : PySem.W.nsIn K c_READS "setat" = some (some (.ref wt_READS_14)))
    (wy_READS_14 : K.lookup wt_READS_14 = some ⟨.type "tuple", wd_READS_14, .seq #[.int 1 wq_READS_14_0, .int 2 wq_READS_14_1, .int 3 wq_READS_14_2] wn_READS_14, ws_READS_14⟩)
    (wx_READS_15 : PySem.W.nsIn K c_READS "len" = some (some (.ref wt_READS_15)))
    (wy_READS_15 : K.lookup wt_READS_15 = some ⟨.type "tuple", wd_READS_15, .seq #[.int 2 wq_READS_15_0] wn_READS_15, ws_READS_15⟩)
    (wx_READS_16 : PySem.W.nsIn K c_READS "call" = some (some (.ref wt_READS_16)))
    (wy_READS_16 : K.lookup wt_READS_16 = some ⟨.type "tuple", wd_READS_16, .seq #[] wn_READS_16, ws_READS_16⟩)
    (wx_READS_17 : PySem.W.nsIn K c_READS "callv" = some (some (.ref wt_READS_17)))
    (wy_READS_17 : K.lookup wt_READS_17 = some ⟨.type "tuple", wd_READS_17, .seq #[.int 2 wq_READS_17_0] wn_READS_17, ws_READS_17⟩)
    (wx_READS_18 : PySem.W.nsIn K c_READS "method" = some (some (.ref wt_READS_18)))
    (wy_READS_18 : K.lookup wt_READS_18 = some ⟨.type "tuple", wd_READS_18, .seq #[.int 2 wq_READS_18_0] wn_READS_18, ws_READS_18⟩)
    (wx_READS_19 : PySem.W.nsIn K c_READS "return" = some (some (.ref wt_READS_19)))
    (wy_READS_19 : K.lookup wt_READS_19 = some ⟨.type "tuple", wd_READS_19, .seq #[.int 1 wq_READS_19_0] wn_READS_19, ws_READS_19⟩)
    (wx_READS_20 : PySem.W.nsIn K c_READS "say" = some (some (.ref wt_READS_20)))
    (wy_READS_20 : K.lookup wt_READS_20 = some ⟨.type "tuple", wd_READS_20, .seq #[.int 1 wq_READS_20_0] wn_READS_20, ws_READS_20⟩)
    (wx_READS_21 : PySem.W.nsIn K c_READS "fail" = some (some (.ref wt_READS_21)))
    (wy_READS_21 : K.lookup wt_READS_21 = some ⟨.type "tuple", wd_READS_21, .seq #[.int 1 wq_READS_21_0] wn_READS_21, ws_READS_21⟩)
    (wx_READS_22 : PySem.W.nsIn K c_READS "load" = some (some (.ref wt_READS_22)))
    (wy_READS_22 : K.lookup wt_READS_22 = some ⟨.type "tuple", wd_READS_22, .seq #[.int 1 wq_READS_22_0] wn_READS_22, ws_READS_22⟩)
    (wx_READS_23 : PySem.W.nsIn K c_READS "spawn" = some (some (.ref wt_READS_23)))
    (wy_READS_23 : K.lookup wt_READS_23 = some ⟨.type "tuple", wd_READS_23, .seq #[] wn_READS_23, ws_READS_23⟩)
    (wx_READS_24 : PySem.W.nsIn K c_READS "pause" = some (some (.ref wt_READS_24)))
    (wy_READS_24 : K.lookup wt_READS_24 = some ⟨.type "tuple", wd_READS_24, .seq #[] wn_READS_24, ws_READS_24⟩)
    (wg_WRITES : PySem.W.nsIn K mainGlobals "WRITES" = some (some (.ref c_WRITES)))
    (wl_WRITES : K.lookup c_WRITES = some ⟨.type "dict", none, .dict es_WRITES ep_WRITES, #[]⟩)
    (wk_WRITES : PySem.W.KeysLit w.params es_WRITES.toList)
    (wo_WRITES : (c_WRITES == sysModules) = false)
    (wx_WRITES_0 : PySem.W.nsIn K c_WRITES "const" = some (some (.int 1 wq_WRITES_0)))
    (wx_WRITES_1 : PySem.W.nsIn K c_WRITES "move" = some (some (.int 1 wq_WRITES_1)))
    (wx_WRITES_2 : PySem.W.nsIn K c_WRITES "op" = some (some (.int 2 wq_WRITES_2)))
    (wx_WRITES_3 : PySem.W.nsIn K c_WRITES "not" = some (some (.int 1 wq_WRITES_3)))
    (wx_WRITES_4 : PySem.W.nsIn K c_WRITES "getg" = some (some (.int 1 wq_WRITES_4)))
    (wx_WRITES_5 : PySem.W.nsIn K c_WRITES "new" = some (some (.int 1 wq_WRITES_5)))
    (wx_WRITES_6 : PySem.W.nsIn K c_WRITES "get" = some (some (.int 1 wq_WRITES_6)))
    (wx_WRITES_7 : PySem.W.nsIn K c_WRITES "array" = some (some (.int 1 wq_WRITES_7)))
    (wx_WRITES_8 : PySem.W.nsIn K c_WRITES "at" = some (some (.int 1 wq_WRITES_8)))
    (wx_WRITES_9 : PySem.W.nsIn K c_WRITES "len" = some (some (.int 1 wq_WRITES_9)))
    (wx_WRITES_10 : PySem.W.nsIn K c_WRITES "call" = some (some (.int 1 wq_WRITES_10)))
    (wx_WRITES_11 : PySem.W.nsIn K c_WRITES "callv" = some (some (.int 1 wq_WRITES_11)))
    (wx_WRITES_12 : PySem.W.nsIn K c_WRITES "method" = some (some (.int 1 wq_WRITES_12)))
    (wx_WRITES_13 : PySem.W.nsIn K c_WRITES "jump" = some none)
    (wx_WRITES_14 : PySem.W.nsIn K c_WRITES "branch" = some none)
    (wx_WRITES_15 : PySem.W.nsIn K c_WRITES "setg" = some none)
    (wx_WRITES_16 : PySem.W.nsIn K c_WRITES "put" = some none)
    (wx_WRITES_17 : PySem.W.nsIn K c_WRITES "drop" = some none)
    (wx_WRITES_18 : PySem.W.nsIn K c_WRITES "setat" = some none)
    (wx_WRITES_19 : PySem.W.nsIn K c_WRITES "return" = some none)
    (wx_WRITES_20 : PySem.W.nsIn K c_WRITES "say" = some none)
    (wx_WRITES_21 : PySem.W.nsIn K c_WRITES "fail" = some none)
    (wx_WRITES_22 : PySem.W.nsIn K c_WRITES "load" = some none)
    (wx_WRITES_23 : PySem.W.nsIn K c_WRITES "spawn" = some none)
    (wx_WRITES_24 : PySem.W.nsIn K c_WRITES "pause" = some none)
    : ∃ fd : FuncData, (∀ (s : Shared) (v : Value), BindsTo s fd ⟨[v], []⟩ [("script", v)]) ∧ ∀ base : Heap, K.In base → base.Ns mainGlobals mg → FnOk l.prog w K mg base CX0 8 fa fd ["script"] (sp_law K) := by
  have e := hfa.symm.trans (PySem.W.mg_of X G a_law)
  cases e
  have F_handler_at := fun_mk (st := s_handler_at) l_handler_at c_handler_at k_handler_at
  have F_slots_read := fun_mk (st := s_slots_read) l_slots_read c_slots_read k_slots_read
  have F_uses := fun_mk (st := s_uses) l_uses c_uses k_uses
  have F_target := fun_mk (st := s_target) l_target c_target k_target
  have F_following := fun_mk (st := s_following) l_following c_following k_following
  have F_heads := fun_mk (st := s_heads) l_heads c_heads k_heads
  have F_Code_init := fun_mk (st := s_Code_init) l_Code_init c_Code_init k_Code_init
  have F_told_code := fun_mk (st := s_told_code) l_told_code c_told_code k_told_code
  have F_code_of := fun_mk (st := s_code_of) l_code_of c_code_of k_code_of
  have F_law_box := fun_mk (st := s_law_box) l_law_box c_law_box k_law_box
  have F_law_draw := fun_mk (st := s_law_draw) l_law_draw c_law_draw k_law_draw
  have F_law_reserved := fun_mk (st := s_law_reserved) l_law_reserved c_law_reserved k_law_reserved
  have F_law_word := fun_mk (st := s_law_word) l_law_word c_law_word k_law_word
  have F_law_value := fun_mk (st := s_law_value) l_law_value c_law_value k_law_value
  have F_law_row := fun_mk (st := s_law_row) l_law_row c_law_row k_law_row
  have F_law_words := fun_mk (st := s_law_words) l_law_words c_law_words k_law_words
  have F_law_drawn := fun_mk (st := s_law_drawn) l_law_drawn c_law_drawn k_law_drawn
  have F_law_read := fun_mk (st := s_law_read) l_law_read c_law_read k_law_read
  have F_law_written := fun_mk (st := s_law_written) l_law_written c_law_written k_law_written
  have F_law_later := fun_mk (st := s_law_later) l_law_later c_law_later k_law_later
  have F_law_catcher := fun_mk (st := s_law_catcher) l_law_catcher c_law_catcher k_law_catcher
  have F_law_same := fun_mk (st := s_law_same) l_law_same c_law_same k_law_same
  have F_law_row_agrees := fun_mk (st := s_law_row_agrees) l_law_row_agrees c_law_row_agrees k_law_row_agrees
  have F_law_loops := fun_mk (st := s_law_loops) l_law_loops c_law_loops k_law_loops
  have F_law_has := fun_mk (st := s_law_has) l_law_has c_law_has k_law_has
  have F_law := fun_mk (st := s_law) l_law c_law k_law
  have T : Txt K w mg ⟨f_handler_at, PySem.W.fnOf "handler_at" "handler_at" (defArgs s_handler_at) (defBody s_handler_at) (defScope s_handler_at) .none kV_handler_at dc_handler_at pm_handler_at an_handler_at cd_handler_at ct_handler_at, f_slots_read, PySem.W.fnOf "slots_read" "slots_read" (defArgs s_slots_read) (defBody s_slots_read) (defScope s_slots_read) .none kV_slots_read dc_slots_read pm_slots_read an_slots_read cd_slots_read ct_slots_read, f_uses, PySem.W.fnOf "uses" "uses" (defArgs s_uses) (defBody s_uses) (defScope s_uses) .none kV_uses dc_uses pm_uses an_uses cd_uses ct_uses, f_target, PySem.W.fnOf "target" "target" (defArgs s_target) (defBody s_target) (defScope s_target) .none kV_target dc_target pm_target an_target cd_target ct_target, f_following, PySem.W.fnOf "following" "following" (defArgs s_following) (defBody s_following) (defScope s_following) .none kV_following dc_following pm_following an_following cd_following ct_following, f_heads, PySem.W.fnOf "heads" "heads" (defArgs s_heads) (defBody s_heads) (defScope s_heads) .none kV_heads dc_heads pm_heads an_heads cd_heads ct_heads, f_Code_init, PySem.W.fnOf "__init__" "Code.__init__" (defArgs s_Code_init) (defBody s_Code_init) (defScope s_Code_init) .none kV_Code_init dc_Code_init pm_Code_init an_Code_init cd_Code_init ct_Code_init, f_told_code, PySem.W.fnOf "told_code" "told_code" (defArgs s_told_code) (defBody s_told_code) (defScope s_told_code) .none kV_told_code dc_told_code pm_told_code an_told_code cd_told_code ct_told_code, f_code_of, PySem.W.fnOf "code_of" "code_of" (defArgs s_code_of) (defBody s_code_of) (defScope s_code_of) .none kV_code_of dc_code_of pm_code_of an_code_of cd_code_of ct_code_of, f_law_box, PySem.W.fnOf "_law_box" "_law_box" (defArgs s_law_box) (defBody s_law_box) (defScope s_law_box) .none kV_law_box dc_law_box pm_law_box an_law_box cd_law_box ct_law_box, f_law_draw, PySem.W.fnOf "_law_draw" "_law_draw" (defArgs s_law_draw) (defBody s_law_draw) (defScope s_law_draw) .none kV_law_draw dc_law_draw pm_law_draw an_law_draw cd_law_draw ct_law_draw, f_law_reserved, PySem.W.fnOf "_law_reserved" "_law_reserved" (defArgs s_law_reserved) (defBody s_law_reserved) (defScope s_law_reserved) .none kV_law_reserved dc_law_reserved pm_law_reserved an_law_reserved cd_law_reserved ct_law_reserved, f_law_word, PySem.W.fnOf "_law_word" "_law_word" (defArgs s_law_word) (defBody s_law_word) (defScope s_law_word) .none kV_law_word dc_law_word pm_law_word an_law_word cd_law_word ct_law_word, f_law_value, PySem.W.fnOf "_law_value" "_law_value" (defArgs s_law_value) (defBody s_law_value) (defScope s_law_value) .none kV_law_value dc_law_value pm_law_value an_law_value cd_law_value ct_law_value, f_law_row, PySem.W.fnOf "_law_row" "_law_row" (defArgs s_law_row) (defBody s_law_row) (defScope s_law_row) .none kV_law_row dc_law_row pm_law_row an_law_row cd_law_row ct_law_row, f_law_words, PySem.W.fnOf "_law_words" "_law_words" (defArgs s_law_words) (defBody s_law_words) (defScope s_law_words) .none kV_law_words dc_law_words pm_law_words an_law_words cd_law_words ct_law_words, f_law_drawn, PySem.W.fnOf "_law_drawn" "_law_drawn" (defArgs s_law_drawn) (defBody s_law_drawn) (defScope s_law_drawn) .none kV_law_drawn dc_law_drawn pm_law_drawn an_law_drawn cd_law_drawn ct_law_drawn, f_law_read, PySem.W.fnOf "_law_read" "_law_read" (defArgs s_law_read) (defBody s_law_read) (defScope s_law_read) .none kV_law_read dc_law_read pm_law_read an_law_read cd_law_read ct_law_read, f_law_written, PySem.W.fnOf "_law_written" "_law_written" (defArgs s_law_written) (defBody s_law_written) (defScope s_law_written) .none kV_law_written dc_law_written pm_law_written an_law_written cd_law_written ct_law_written, f_law_later, PySem.W.fnOf "_law_later" "_law_later" (defArgs s_law_later) (defBody s_law_later) (defScope s_law_later) .none kV_law_later dc_law_later pm_law_later an_law_later cd_law_later ct_law_later, f_law_catcher, PySem.W.fnOf "_law_catcher" "_law_catcher" (defArgs s_law_catcher) (defBody s_law_catcher) (defScope s_law_catcher) .none kV_law_catcher dc_law_catcher pm_law_catcher an_law_catcher cd_law_catcher ct_law_catcher, f_law_same, PySem.W.fnOf "_law_same" "_law_same" (defArgs s_law_same) (defBody s_law_same) (defScope s_law_same) .none kV_law_same dc_law_same pm_law_same an_law_same cd_law_same ct_law_same, f_law_row_agrees, PySem.W.fnOf "_law_row_agrees" "_law_row_agrees" (defArgs s_law_row_agrees) (defBody s_law_row_agrees) (defScope s_law_row_agrees) .none kV_law_row_agrees dc_law_row_agrees pm_law_row_agrees an_law_row_agrees cd_law_row_agrees ct_law_row_agrees, f_law_loops, PySem.W.fnOf "_law_loops" "_law_loops" (defArgs s_law_loops) (defBody s_law_loops) (defScope s_law_loops) .none kV_law_loops dc_law_loops pm_law_loops an_law_loops cd_law_loops ct_law_loops, f_law_has, PySem.W.fnOf "_law_has" "_law_has" (defArgs s_law_has) (defBody s_law_has) (defScope s_law_has) .none kV_law_has dc_law_has pm_law_has an_law_has cd_law_has ct_law_has, fa, PySem.W.fnOf "law" "law" (defArgs s_law) (defBody s_law) (defScope s_law) .none kV_law dc_law pm_law an_law cd_law ct_law, C_Code, c_LISTS, c_READS, c_WRITES⟩ := {
    g_handler_at := PySem.W.mg_of X G a_handler_at
    F_handler_at := F_handler_at
    b_handler_at := F_handler_at.binds (ps := ["code", "pc"]) fun _ _ _ _ _ _ us hl => match us, hl with | [_, _], _ => rfl
    g_slots_read := PySem.W.mg_of X G a_slots_read
    F_slots_read := F_slots_read
    b_slots_read := F_slots_read.binds (ps := ["row"]) fun _ _ _ _ _ _ us hl => match us, hl with | [_], _ => rfl
    g_uses := PySem.W.mg_of X G a_uses
    F_uses := F_uses
    b_uses := F_uses.binds (ps := ["row"]) fun _ _ _ _ _ _ us hl => match us, hl with | [_], _ => rfl
    g_target := PySem.W.mg_of X G a_target
    F_target := F_target
    b_target := F_target.binds (ps := ["row"]) fun _ _ _ _ _ _ us hl => match us, hl with | [_], _ => rfl
    g_following := PySem.W.mg_of X G a_following
    F_following := F_following
    b_following := F_following.binds (ps := ["code", "pc"]) fun _ _ _ _ _ _ us hl => match us, hl with | [_, _], _ => rfl
    g_heads := PySem.W.mg_of X G a_heads
    F_heads := F_heads
    b_heads := F_heads.binds (ps := ["code"]) fun _ _ _ _ _ _ us hl => match us, hl with | [_], _ => rfl
    F_Code_init := F_Code_init
    b_Code_init := F_Code_init.binds (ps := ["self", "name", "params", "size", "rows", "handlers"]) fun _ _ _ _ _ _ us hl => match us, hl with | [_, _, _, _, _, _], _ => rfl
    g_told_code := PySem.W.mg_of X G a_told_code
    F_told_code := F_told_code
    b_told_code := F_told_code.binds (ps := ["code"]) fun _ _ _ _ _ _ us hl => match us, hl with | [_], _ => rfl
    g_code_of := PySem.W.mg_of X G a_code_of
    F_code_of := F_code_of
    b_code_of := F_code_of.binds (ps := ["told"]) fun _ _ _ _ _ _ us hl => match us, hl with | [_], _ => rfl
    g_law_box := PySem.W.mg_of X G a_law_box
    F_law_box := F_law_box
    b_law_box := F_law_box.binds (ps := ["script"]) fun _ _ _ _ _ _ us hl => match us, hl with | [_], _ => rfl
    g_law_draw := PySem.W.mg_of X G a_law_draw
    F_law_draw := F_law_draw
    b_law_draw := F_law_draw.binds (ps := ["box", "many"]) fun _ _ _ _ _ _ us hl => match us, hl with | [_, _], _ => rfl
    g_law_reserved := PySem.W.mg_of X G a_law_reserved
    F_law_reserved := F_law_reserved
    b_law_reserved := F_law_reserved.binds (ps := []) fun _ _ _ _ _ _ us hl => match us, hl with | [], _ => rfl
    g_law_word := PySem.W.mg_of X G a_law_word
    F_law_word := F_law_word
    b_law_word := F_law_word.binds (ps := ["box", "known"]) fun _ _ _ _ _ _ us hl => match us, hl with | [_, _], _ => rfl
    g_law_value := PySem.W.mg_of X G a_law_value
    F_law_value := F_law_value
    b_law_value := F_law_value.binds (ps := ["box", "known"]) fun _ _ _ _ _ _ us hl => match us, hl with | [_, _], _ => rfl
    g_law_row := PySem.W.mg_of X G a_law_row
    F_law_row := F_law_row
    b_law_row := F_law_row.binds (ps := ["box", "word", "many", "size", "known"]) fun _ _ _ _ _ _ us hl => match us, hl with | [_, _, _, _, _], _ => rfl
    g_law_words := PySem.W.mg_of X G a_law_words
    F_law_words := F_law_words
    b_law_words := F_law_words.binds (ps := []) fun _ _ _ _ _ _ us hl => match us, hl with | [], _ => rfl
    g_law_drawn := PySem.W.mg_of X G a_law_drawn
    F_law_drawn := F_law_drawn
    b_law_drawn := F_law_drawn.binds (ps := ["box", "known"]) fun _ _ _ _ _ _ us hl => match us, hl with | [_, _], _ => rfl
    g_law_read := PySem.W.mg_of X G a_law_read
    F_law_read := F_law_read
    b_law_read := F_law_read.binds (ps := ["row"]) fun _ _ _ _ _ _ us hl => match us, hl with | [_], _ => rfl
    g_law_written := PySem.W.mg_of X G a_law_written
    F_law_written := F_law_written
    b_law_written := F_law_written.binds (ps := ["row"]) fun _ _ _ _ _ _ us hl => match us, hl with | [_], _ => rfl
    g_law_later := PySem.W.mg_of X G a_law_later
    F_law_later := F_law_later
    b_law_later := F_law_later.binds (ps := ["rows", "at"]) fun _ _ _ _ _ _ us hl => match us, hl with | [_, _], _ => rfl
    g_law_catcher := PySem.W.mg_of X G a_law_catcher
    F_law_catcher := F_law_catcher
    b_law_catcher := F_law_catcher.binds (ps := ["handlers", "at"]) fun _ _ _ _ _ _ us hl => match us, hl with | [_, _], _ => rfl
    g_law_same := PySem.W.mg_of X G a_law_same
    F_law_same := F_law_same
    b_law_same := F_law_same.binds (ps := ["value", "due"]) fun _ _ _ _ _ _ us hl => match us, hl with | [_, _], _ => rfl
    g_law_row_agrees := PySem.W.mg_of X G a_law_row_agrees
    F_law_row_agrees := F_law_row_agrees
    b_law_row_agrees := F_law_row_agrees.binds (ps := ["row", "size"]) fun _ _ _ _ _ _ us hl => match us, hl with | [_, _], _ => rfl
    g_law_loops := PySem.W.mg_of X G a_law_loops
    F_law_loops := F_law_loops
    b_law_loops := F_law_loops.binds (ps := ["rows"]) fun _ _ _ _ _ _ us hl => match us, hl with | [_], _ => rfl
    g_law_has := PySem.W.mg_of X G a_law_has
    F_law_has := F_law_has
    b_law_has := F_law_has.binds (ps := ["code", "drawn"]) fun _ _ _ _ _ _ us hl => match us, hl with | [_, _], _ => rfl
    g_law := PySem.W.mg_of X G a_law
    F_law := F_law
    b_law := F_law.binds (ps := ["script"]) fun _ _ _ _ _ _ us hl => match us, hl with | [_], _ => rfl
    gc_Code := PySem.W.mg_of X G gc_Code
    q_Code := ⟨pg_Code, hd_Code, po_Code, sa_Code⟩
    m_Code := ⟨mk_Code, a_Code_init, i_Code_init, kc_Code⟩
    na_Code_name := na_Code_name
    na_Code_params := na_Code_params
    na_Code_size := na_Code_size
    na_Code_rows := na_Code_rows
    na_Code_handlers := na_Code_handlers
    na_Code_known_live := na_Code_known_live
    n_all := PySem.W.mg_none_of X G n_all
    n_bool := PySem.W.mg_none_of X G n_bool
    n_enumerate := PySem.W.mg_none_of X G n_enumerate
    n_int := PySem.W.mg_none_of X G n_int
    n_isinstance := PySem.W.mg_none_of X G n_isinstance
    n_len := PySem.W.mg_none_of X G n_len
    n_list := PySem.W.mg_none_of X G n_list
    n_range := PySem.W.mg_none_of X G n_range
    n_set := PySem.W.mg_none_of X G n_set
    n_sorted := PySem.W.mg_none_of X G n_sorted
    n_str := PySem.W.mg_none_of X G n_str
    n_tuple := PySem.W.mg_none_of X G n_tuple
    g_LISTS := PySem.W.mg_of X G wg_LISTS
    w_LISTS := ⟨_, _, wl_LISTS, wk_LISTS, wo_LISTS⟩
    x_LISTS := List.forall_mem_cons.2 ⟨wat_int wx_LISTS_0, List.forall_mem_cons.2 ⟨wat_int wx_LISTS_1, List.forall_mem_cons.2 ⟨wat_int wx_LISTS_2, List.forall_mem_cons.2 ⟨wat_int wx_LISTS_3, List.forall_mem_cons.2 ⟨wat_none wx_LISTS_4, List.forall_mem_cons.2 ⟨wat_none wx_LISTS_5, List.forall_mem_cons.2 ⟨wat_none wx_LISTS_6, List.forall_mem_cons.2 ⟨wat_none wx_LISTS_7, List.forall_mem_cons.2 ⟨wat_none wx_LISTS_8, List.forall_mem_cons.2 ⟨wat_none wx_LISTS_9, List.forall_mem_cons.2 ⟨wat_none wx_LISTS_10, List.forall_mem_cons.2 ⟨wat_none wx_LISTS_11, List.forall_mem_cons.2 ⟨wat_none wx_LISTS_12, List.forall_mem_cons.2 ⟨wat_none wx_LISTS_13, List.forall_mem_cons.2 ⟨wat_none wx_LISTS_14, List.forall_mem_cons.2 ⟨wat_none wx_LISTS_15, List.forall_mem_cons.2 ⟨wat_none wx_LISTS_16, List.forall_mem_cons.2 ⟨wat_none wx_LISTS_17, List.forall_mem_cons.2 ⟨wat_none wx_LISTS_18, List.forall_mem_cons.2 ⟨wat_none wx_LISTS_19, List.forall_mem_cons.2 ⟨wat_none wx_LISTS_20, List.forall_mem_cons.2 ⟨wat_none wx_LISTS_21, List.forall_mem_cons.2 ⟨wat_none wx_LISTS_22, List.forall_mem_cons.2 ⟨wat_none wx_LISTS_23, List.forall_mem_cons.2 ⟨wat_none wx_LISTS_24, List.forall_mem_nil _⟩⟩⟩⟩⟩⟩⟩⟩⟩⟩⟩⟩⟩⟩⟩⟩⟩⟩⟩⟩⟩⟩⟩⟩⟩
    g_READS := PySem.W.mg_of X G wg_READS
    w_READS := ⟨_, _, wl_READS, wk_READS, wo_READS⟩
    x_READS := List.forall_mem_cons.2 ⟨⟨wt_READS_0, wat_ref wx_READS_0, sqt_of wy_READS_0 (sz (by decide : 0 ≤ 100000)) .nil⟩, List.forall_mem_cons.2 ⟨⟨wt_READS_1, wat_ref wx_READS_1, sqt_of wy_READS_1 (sz (by decide : 1 ≤ 100000)) (.cons ⟨_, rfl⟩ .nil)⟩, List.forall_mem_cons.2 ⟨⟨wt_READS_2, wat_ref wx_READS_2, sqt_of wy_READS_2 (sz (by decide : 2 ≤ 100000)) (.cons ⟨_, rfl⟩ (.cons ⟨_, rfl⟩ .nil))⟩, List.forall_mem_cons.2 ⟨⟨wt_READS_3, wat_ref wx_READS_3, sqt_of wy_READS_3 (sz (by decide : 1 ≤ 100000)) (.cons ⟨_, rfl⟩ .nil)⟩, List.forall_mem_cons.2 ⟨⟨wt_READS_4, wat_ref wx_READS_4, sqt_of wy_READS_4 (sz (by decide : 0 ≤ 100000)) .nil⟩, List.forall_mem_cons.2 ⟨⟨wt_READS_5, wat_ref wx_READS_5, sqt_of wy_READS_5 (sz (by decide : 1 ≤ 100000)) (.cons ⟨_, rfl⟩ .nil)⟩, List.forall_mem_cons.2 ⟨⟨wt_READS_6, wat_ref wx_READS_6, sqt_of wy_READS_6 (sz (by decide : 0 ≤ 100000)) .nil⟩, List.forall_mem_cons.2 ⟨⟨wt_READS_7, wat_ref wx_READS_7, sqt_of wy_READS_7 (sz (by decide : 1 ≤ 100000)) (.cons ⟨_, rfl⟩ .nil)⟩, List.forall_mem_cons.2 ⟨⟨wt_READS_8, wat_ref wx_READS_8, sqt_of wy_READS_8 (sz (by decide : 0 ≤ 100000)) .nil⟩, List.forall_mem_cons.2 ⟨⟨wt_READS_9, wat_ref wx_READS_9, sqt_of wy_READS_9 (sz (by decide : 1 ≤ 100000)) (.cons ⟨_, rfl⟩ .nil)⟩, List.forall_mem_cons.2 ⟨⟨wt_READS_10, wat_ref wx_READS_10, sqt_of wy_READS_10 (sz (by decide : 2 ≤ 100000)) (.cons ⟨_, rfl⟩ (.cons ⟨_, rfl⟩ .nil))⟩, List.forall_mem_cons.2 ⟨⟨wt_READS_11, wat_ref wx_READS_11, sqt_of wy_READS_11 (sz (by decide : 1 ≤ 100000)) (.cons ⟨_, rfl⟩ .nil)⟩, List.forall_mem_cons.2 ⟨⟨wt_READS_12, wat_ref wx_READS_12, sqt_of wy_READS_12 (sz (by decide : 1 ≤ 100000)) (.cons ⟨_, rfl⟩ .nil)⟩, List.forall_mem_cons.2 ⟨⟨wt_READS_13, wat_ref wx_READS_13, sqt_of wy_READS_13 (sz (by decide : 2 ≤ 100000)) (.cons ⟨_, rfl⟩ (.cons ⟨_, rfl⟩ .nil))⟩, List.forall_mem_cons.2 ⟨⟨wt_READS_14, wat_ref wx_READS_14, sqt_of wy_READS_14 (sz (by decide : 3 ≤ 100000)) (.cons ⟨_, rfl⟩ (.cons ⟨_, rfl⟩ (.cons ⟨_, rfl⟩ .nil)))⟩, List.forall_mem_cons.2 ⟨⟨wt_READS_15, wat_ref wx_READS_15, sqt_of wy_READS_15 (sz (by decide : 1 ≤ 100000)) (.cons ⟨_, rfl⟩ .nil)⟩, List.forall_mem_cons.2 ⟨⟨wt_READS_16, wat_ref wx_READS_16, sqt_of wy_READS_16 (sz (by decide : 0 ≤ 100000)) .nil⟩, List.forall_mem_cons.2 ⟨⟨wt_READS_17, wat_ref wx_READS_17, sqt_of wy_READS_17 (sz (by decide : 1 ≤ 100000)) (.cons ⟨_, rfl⟩ .nil)⟩, List.forall_mem_cons.2 ⟨⟨wt_READS_18, wat_ref wx_READS_18, sqt_of wy_READS_18 (sz (by decide : 1 ≤ 100000)) (.cons ⟨_, rfl⟩ .nil)⟩, List.forall_mem_cons.2 ⟨⟨wt_READS_19, wat_ref wx_READS_19, sqt_of wy_READS_19 (sz (by decide : 1 ≤ 100000)) (.cons ⟨_, rfl⟩ .nil)⟩, List.forall_mem_cons.2 ⟨⟨wt_READS_20, wat_ref wx_READS_20, sqt_of wy_READS_20 (sz (by decide : 1 ≤ 100000)) (.cons ⟨_, rfl⟩ .nil)⟩, List.forall_mem_cons.2 ⟨⟨wt_READS_21, wat_ref wx_READS_21, sqt_of wy_READS_21 (sz (by decide : 1 ≤ 100000)) (.cons ⟨_, rfl⟩ .nil)⟩, List.forall_mem_cons.2 ⟨⟨wt_READS_22, wat_ref wx_READS_22, sqt_of wy_READS_22 (sz (by decide : 1 ≤ 100000)) (.cons ⟨_, rfl⟩ .nil)⟩, List.forall_mem_cons.2 ⟨⟨wt_READS_23, wat_ref wx_READS_23, sqt_of wy_READS_23 (sz (by decide : 0 ≤ 100000)) .nil⟩, List.forall_mem_cons.2 ⟨⟨wt_READS_24, wat_ref wx_READS_24, sqt_of wy_READS_24 (sz (by decide : 0 ≤ 100000)) .nil⟩, List.forall_mem_nil _⟩⟩⟩⟩⟩⟩⟩⟩⟩⟩⟩⟩⟩⟩⟩⟩⟩⟩⟩⟩⟩⟩⟩⟩⟩
    g_WRITES := PySem.W.mg_of X G wg_WRITES
    w_WRITES := ⟨_, _, wl_WRITES, wk_WRITES, wo_WRITES⟩
    x_WRITES := List.forall_mem_cons.2 ⟨wat_int wx_WRITES_0, List.forall_mem_cons.2 ⟨wat_int wx_WRITES_1, List.forall_mem_cons.2 ⟨wat_int wx_WRITES_2, List.forall_mem_cons.2 ⟨wat_int wx_WRITES_3, List.forall_mem_cons.2 ⟨wat_int wx_WRITES_4, List.forall_mem_cons.2 ⟨wat_int wx_WRITES_5, List.forall_mem_cons.2 ⟨wat_int wx_WRITES_6, List.forall_mem_cons.2 ⟨wat_int wx_WRITES_7, List.forall_mem_cons.2 ⟨wat_int wx_WRITES_8, List.forall_mem_cons.2 ⟨wat_int wx_WRITES_9, List.forall_mem_cons.2 ⟨wat_int wx_WRITES_10, List.forall_mem_cons.2 ⟨wat_int wx_WRITES_11, List.forall_mem_cons.2 ⟨wat_int wx_WRITES_12, List.forall_mem_cons.2 ⟨wat_none wx_WRITES_13, List.forall_mem_cons.2 ⟨wat_none wx_WRITES_14, List.forall_mem_cons.2 ⟨wat_none wx_WRITES_15, List.forall_mem_cons.2 ⟨wat_none wx_WRITES_16, List.forall_mem_cons.2 ⟨wat_none wx_WRITES_17, List.forall_mem_cons.2 ⟨wat_none wx_WRITES_18, List.forall_mem_cons.2 ⟨wat_none wx_WRITES_19, List.forall_mem_cons.2 ⟨wat_none wx_WRITES_20, List.forall_mem_cons.2 ⟨wat_none wx_WRITES_21, List.forall_mem_cons.2 ⟨wat_none wx_WRITES_22, List.forall_mem_cons.2 ⟨wat_none wx_WRITES_23, List.forall_mem_cons.2 ⟨wat_none wx_WRITES_24, List.forall_mem_nil _⟩⟩⟩⟩⟩⟩⟩⟩⟩⟩⟩⟩⟩⟩⟩⟩⟩⟩⟩⟩⟩⟩⟩⟩⟩
  }
  exact ⟨_, fun s v => .of_eq rfl, fun base _ _ => ok_law T⟩
theorem walk {l : PySem.W.OpenLaw} {q : Program} {loose : List Str} {XP : (Str → Option Value) → Heap → Prop} {YP : World → Heap → Prop} {d : DefRec} {K : Params → PySem.W.Frag} (hn : l.most = some 63) (hdf : d.params.defaults = [])
    (hY : ∀ (w : World) (h : Heap), YP w h → (K w.params).In h)
    (F : ∀ (w : World) (mg : Str → Option Value) (fa : Addr) (h : Heap), (K w.params).In h → h.Ns mainGlobals mg → mg d.name = some (.ref fa) →
      ∃ fd : FuncData, (∀ (s : Shared) (u : Value), BindsTo s fd ⟨[u], []⟩ [("script", u)]) ∧ ∀ base : Heap, (K w.params).In base → base.Ns mainGlobals mg → FnOk l.prog w (K w.params) mg base CX0 8 fa fd ["script"] (sp_law (K w.params))) :
    PySem.W.WalkO q loose XP YP l.row.toRowW d [] (fun f vs => PySem.call f vs) :=
  L2.walk_of (n := 63) (k := 8) (x := "script") (CX := fun _ => CX0) (sp := fun w => sp_law (K w.params)) hn (by decide) hdf ⟨rfl, by decide, by decide⟩ hY F (fun w H a ns hl hO hS => law_start (K w.params) H a ns hl hO hS) fun _ _ _ _ _ z => z
end LW
end
end
open PySem PySem.W PyProof.Rows
set_option maxRecDepth 100000 in
set_option maxHeartbeats 0 in
theorem PySem.Challenge.cw_reforge_k09_code_queries_holds : PySem.Challenge.rw_reforge_k09_code_queries.Holds := by
  w_on; o_law; k_head; (case hw => w_witness2)
  k_fill
  refine LW.walk (l := PySem.Challenge.rw_reforge_k09_code_queries) rfl rfl (fun w h Y => PySem.W.kIn_of Y) ?F
  case F =>
    intro w mg fa h KX G hmg
    refine' LW.all_mk KX G hmg ?gc_Code ?pg_Code ?hd_Code ?po_Code ?sa_Code ?mk_Code ?kc_Code ?na_Code_name ?na_Code_params ?na_Code_size ?na_Code_rows ?na_Code_handlers ?na_Code_known_live ?a_handler_at ?l_handler_at ?c_handler_at ?k_handler_at ?a_slots_read ?l_slots_read ?c_slots_read ?k_slots_read ?a_uses ?l_uses ?c_uses ?k_uses ?a_target ?l_target ?c_target ?k_target ?a_following ?l_following ?c_following ?k_following ?a_heads ?l_heads ?c_heads ?k_heads ?a_Code_init ?i_Code_init ?l_Code_init ?c_Code_init ?k_Code_init ?a_told_code ?l_told_code ?c_told_code ?k_told_code ?a_code_of ?l_code_of ?c_code_of ?k_code_of ?a_law_box ?l_law_box ?c_law_box ?k_law_box ?a_law_draw ?l_law_draw ?c_law_draw ?k_law_draw ?a_law_reserved ?l_law_reserved ?c_law_reserved ?k_law_reserved ?a_law_word ?l_law_word ?c_law_word ?k_law_word ?a_law_value ?l_law_value ?c_law_value ?k_law_value ?a_law_row ?l_law_row ?c_law_row ?k_law_row ?a_law_words ?l_law_words ?c_law_words ?k_law_words ?a_law_drawn ?l_law_drawn ?c_law_drawn ?k_law_drawn ?a_law_read ?l_law_read ?c_law_read ?k_law_read ?a_law_written ?l_law_written ?c_law_written ?k_law_written ?a_law_later ?l_law_later ?c_law_later ?k_law_later ?a_law_catcher ?l_law_catcher ?c_law_catcher ?k_law_catcher ?a_law_same ?l_law_same ?c_law_same ?k_law_same ?a_law_row_agrees ?l_law_row_agrees ?c_law_row_agrees ?k_law_row_agrees ?a_law_loops ?l_law_loops ?c_law_loops ?k_law_loops ?a_law_has ?l_law_has ?c_law_has ?k_law_has ?a_law ?l_law ?c_law ?k_law ?n_all ?n_bool ?n_enumerate ?n_int ?n_isinstance ?n_len ?n_list ?n_range ?n_set ?n_sorted ?n_str ?n_tuple ?wg_LISTS ?wl_LISTS ?wk_LISTS ?wo_LISTS ?wx_LISTS_0 ?wx_LISTS_1 ?wx_LISTS_2 ?wx_LISTS_3 ?wx_LISTS_4 ?wx_LISTS_5 ?wx_LISTS_6 ?wx_LISTS_7 ?wx_LISTS_8 ?wx_LISTS_9 ?wx_LISTS_10 ?wx_LISTS_11 ?wx_LISTS_12 ?wx_LISTS_13 ?wx_LISTS_14 ?wx_LISTS_15 ?wx_LISTS_16 ?wx_LISTS_17 ?wx_LISTS_18 ?wx_LISTS_19 ?wx_LISTS_20 ?wx_LISTS_21 ?wx_LISTS_22 ?wx_LISTS_23 ?wx_LISTS_24 ?wg_READS ?wl_READS ?wk_READS ?wo_READS ?wx_READS_0 ?wy_READS_0 ?wx_READS_1 ?wy_READS_1 ?wx_READS_2 ?wy_READS_2 ?wx_READS_3 ?wy_READS_3 ?wx_READS_4 ?wy_READS_4 ?wx_READS_5 ?wy_READS_5 ?wx_READS_6 ?wy_READS_6 ?wx_READS_7 ?wy_READS_7 ?wx_READS_8 ?wy_READS_8 ?wx_READS_9 ?wy_READS_9 ?wx_READS_10 ?wy_READS_10 ?wx_READS_11 ?wy_READS_11 ?wx_READS_12 ?wy_READS_12 ?wx_READS_13 ?wy_READS_13 ?wx_READS_14 ?wy_READS_14 ?wx_READS_15 ?wy_READS_15 ?wx_READS_16 ?wy_READS_16 ?wx_READS_17 ?wy_READS_17 ?wx_READS_18 ?wy_READS_18 ?wx_READS_19 ?wy_READS_19 ?wx_READS_20 ?wy_READS_20 ?wx_READS_21 ?wy_READS_21 ?wx_READS_22 ?wy_READS_22 ?wx_READS_23 ?wy_READS_23 ?wx_READS_24 ?wy_READS_24 ?wg_WRITES ?wl_WRITES ?wk_WRITES ?wo_WRITES ?wx_WRITES_0 ?wx_WRITES_1 ?wx_WRITES_2 ?wx_WRITES_3 ?wx_WRITES_4 ?wx_WRITES_5 ?wx_WRITES_6 ?wx_WRITES_7 ?wx_WRITES_8 ?wx_WRITES_9 ?wx_WRITES_10 ?wx_WRITES_11 ?wx_WRITES_12 ?wx_WRITES_13 ?wx_WRITES_14 ?wx_WRITES_15 ?wx_WRITES_16 ?wx_WRITES_17 ?wx_WRITES_18 ?wx_WRITES_19 ?wx_WRITES_20 ?wx_WRITES_21 ?wx_WRITES_22 ?wx_WRITES_23 ?wx_WRITES_24
    (case gc_Code => k_is)
    (case pg_Code => k_is)
    (case hd_Code => k_is)
    (case po_Code => k_is)
    (case sa_Code => k_is)
    (case mk_Code => k_is)
    (case kc_Code => k_is)
    (case na_Code_name => k_is)
    (case na_Code_params => k_is)
    (case na_Code_size => k_is)
    (case na_Code_rows => k_is)
    (case na_Code_handlers => k_is)
    (case na_Code_known_live => k_is)
    (case a_handler_at => k_is)
    (case l_handler_at => k_is)
    (case c_handler_at => k_is)
    (case k_handler_at => k_is)
    (case a_slots_read => k_is)
    (case l_slots_read => k_is)
    (case c_slots_read => k_is)
    (case k_slots_read => k_is)
    (case a_uses => k_is)
    (case l_uses => k_is)
    (case c_uses => k_is)
    (case k_uses => k_is)
    (case a_target => k_is)
    (case l_target => k_is)
    (case c_target => k_is)
    (case k_target => k_is)
    (case a_following => k_is)
    (case l_following => k_is)
    (case c_following => k_is)
    (case k_following => k_is)
    (case a_heads => k_is)
    (case l_heads => k_is)
    (case c_heads => k_is)
    (case k_heads => k_is)
    (case a_Code_init => k_is)
    (case i_Code_init => k_is)
    (case l_Code_init => k_is)
    (case c_Code_init => k_is)
    (case k_Code_init => k_is)
    (case a_told_code => k_is)
    (case l_told_code => k_is)
    (case c_told_code => k_is)
    (case k_told_code => k_is)
    (case a_code_of => k_is)
    (case l_code_of => k_is)
    (case c_code_of => k_is)
    (case k_code_of => k_is)
    (case a_law_box => k_is)
    (case l_law_box => k_is)
    (case c_law_box => k_is)
    (case k_law_box => k_is)
    (case a_law_draw => k_is)
    (case l_law_draw => k_is)
    (case c_law_draw => k_is)
    (case k_law_draw => k_is)
    (case a_law_reserved => k_is)
    (case l_law_reserved => k_is)
    (case c_law_reserved => k_is)
    (case k_law_reserved => k_is)
    (case a_law_word => k_is)
    (case l_law_word => k_is)
    (case c_law_word => k_is)
    (case k_law_word => k_is)
    (case a_law_value => k_is)
    (case l_law_value => k_is)
    (case c_law_value => k_is)
    (case k_law_value => k_is)
    (case a_law_row => k_is)
    (case l_law_row => k_is)
    (case c_law_row => k_is)
    (case k_law_row => k_is)
    (case a_law_words => k_is)
    (case l_law_words => k_is)
    (case c_law_words => k_is)
    (case k_law_words => k_is)
    (case a_law_drawn => k_is)
    (case l_law_drawn => k_is)
    (case c_law_drawn => k_is)
    (case k_law_drawn => k_is)
    (case a_law_read => k_is)
    (case l_law_read => k_is)
    (case c_law_read => k_is)
    (case k_law_read => k_is)
    (case a_law_written => k_is)
    (case l_law_written => k_is)
    (case c_law_written => k_is)
    (case k_law_written => k_is)
    (case a_law_later => k_is)
    (case l_law_later => k_is)
    (case c_law_later => k_is)
    (case k_law_later => k_is)
    (case a_law_catcher => k_is)
    (case l_law_catcher => k_is)
    (case c_law_catcher => k_is)
    (case k_law_catcher => k_is)
    (case a_law_same => k_is)
    (case l_law_same => k_is)
    (case c_law_same => k_is)
    (case k_law_same => k_is)
    (case a_law_row_agrees => k_is)
    (case l_law_row_agrees => k_is)
    (case c_law_row_agrees => k_is)
    (case k_law_row_agrees => k_is)
    (case a_law_loops => k_is)
    (case l_law_loops => k_is)
    (case c_law_loops => k_is)
    (case k_law_loops => k_is)
    (case a_law_has => k_is)
    (case l_law_has => k_is)
    (case c_law_has => k_is)
    (case k_law_has => k_is)
    (case a_law => k_is)
    (case l_law => k_is)
    (case c_law => k_is)
    (case k_law => k_is)
    (case n_all => k_is)
    (case n_bool => k_is)
    (case n_enumerate => k_is)
    (case n_int => k_is)
    (case n_isinstance => k_is)
    (case n_len => k_is)
    (case n_list => k_is)
    (case n_range => k_is)
    (case n_set => k_is)
    (case n_sorted => k_is)
    (case n_str => k_is)
    (case n_tuple => k_is)
    (case wg_LISTS => k_is)
    (case wl_LISTS => k_is)
    (case wk_LISTS => k_keys)
    (case wo_LISTS => first | rfl | decide)
    (case wx_LISTS_0 => k_is)
    (case wx_LISTS_1 => k_is)
    (case wx_LISTS_2 => k_is)
    (case wx_LISTS_3 => k_is)
    (case wx_LISTS_4 => k_is)
    (case wx_LISTS_5 => k_is)
    (case wx_LISTS_6 => k_is)
    (case wx_LISTS_7 => k_is)
    (case wx_LISTS_8 => k_is)
    (case wx_LISTS_9 => k_is)
    (case wx_LISTS_10 => k_is)
    (case wx_LISTS_11 => k_is)
    (case wx_LISTS_12 => k_is)
    (case wx_LISTS_13 => k_is)
    (case wx_LISTS_14 => k_is)
    (case wx_LISTS_15 => k_is)
    (case wx_LISTS_16 => k_is)
    (case wx_LISTS_17 => k_is)
    (case wx_LISTS_18 => k_is)
    (case wx_LISTS_19 => k_is)
    (case wx_LISTS_20 => k_is)
    (case wx_LISTS_21 => k_is)
    (case wx_LISTS_22 => k_is)
    (case wx_LISTS_23 => k_is)
    (case wx_LISTS_24 => k_is)
    (case wg_READS => k_is)
    (case wl_READS => k_is)
    (case wk_READS => k_keys)
    (case wo_READS => first | rfl | decide)
    (case wx_READS_0 => k_is)
    (case wy_READS_0 => k_is)
    (case wx_READS_1 => k_is)
    (case wy_READS_1 => k_is)
    (case wx_READS_2 => k_is)
    (case wy_READS_2 => k_is)
    (case wx_READS_3 => k_is)
    (case wy_READS_3 => k_is)
    (case wx_READS_4 => k_is)
    (case wy_READS_4 => k_is)
    (case wx_READS_5 => k_is)
    (case wy_READS_5 => k_is)
    (case wx_READS_6 => k_is)
    (case wy_READS_6 => k_is)
    (case wx_READS_7 => k_is)
    (case wy_READS_7 => k_is)
    (case wx_READS_8 => k_is)
    (case wy_READS_8 => k_is)
    (case wx_READS_9 => k_is)
    (case wy_READS_9 => k_is)
    (case wx_READS_10 => k_is)
    (case wy_READS_10 => k_is)
    (case wx_READS_11 => k_is)
    (case wy_READS_11 => k_is)
    (case wx_READS_12 => k_is)
    (case wy_READS_12 => k_is)
    (case wx_READS_13 => k_is)
    (case wy_READS_13 => k_is)
    (case wx_READS_14 => k_is)
    (case wy_READS_14 => k_is)
    (case wx_READS_15 => k_is)
    (case wy_READS_15 => k_is)
    (case wx_READS_16 => k_is)
    (case wy_READS_16 => k_is)
    (case wx_READS_17 => k_is)
    (case wy_READS_17 => k_is)
    (case wx_READS_18 => k_is)
    (case wy_READS_18 => k_is)
    (case wx_READS_19 => k_is)
    (case wy_READS_19 => k_is)
    (case wx_READS_20 => k_is)
    (case wy_READS_20 => k_is)
    (case wx_READS_21 => k_is)
    (case wy_READS_21 => k_is)
    (case wx_READS_22 => k_is)
    (case wy_READS_22 => k_is)
    (case wx_READS_23 => k_is)
    (case wy_READS_23 => k_is)
    (case wx_READS_24 => k_is)
    (case wy_READS_24 => k_is)
    (case wg_WRITES => k_is)
    (case wl_WRITES => k_is)
    (case wk_WRITES => k_keys)
    (case wo_WRITES => first | rfl | decide)
    (case wx_WRITES_0 => k_is)
    (case wx_WRITES_1 => k_is)
    (case wx_WRITES_2 => k_is)
    (case wx_WRITES_3 => k_is)
    (case wx_WRITES_4 => k_is)
    (case wx_WRITES_5 => k_is)
    (case wx_WRITES_6 => k_is)
    (case wx_WRITES_7 => k_is)
    (case wx_WRITES_8 => k_is)
    (case wx_WRITES_9 => k_is)
    (case wx_WRITES_10 => k_is)
    (case wx_WRITES_11 => k_is)
    (case wx_WRITES_12 => k_is)
    (case wx_WRITES_13 => k_is)
    (case wx_WRITES_14 => k_is)
    (case wx_WRITES_15 => k_is)
    (case wx_WRITES_16 => k_is)
    (case wx_WRITES_17 => k_is)
    (case wx_WRITES_18 => k_is)
    (case wx_WRITES_19 => k_is)
    (case wx_WRITES_20 => k_is)
    (case wx_WRITES_21 => k_is)
    (case wx_WRITES_22 => k_is)
    (case wx_WRITES_23 => k_is)
    (case wx_WRITES_24 => k_is)
#print axioms PySem.Challenge.cw_reforge_k09_code_queries_holds
