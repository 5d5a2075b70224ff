import PyProof.Rows.All
import Wide.All
import OpenK.AllK
import Wide.FinOn
import HandS.ForMost
import HandS.Wide
import HandS.IsInst
import HandS.Conv
import HandS.Deep
import HandS.Strs
import HandS.SetIn
import HandS.SetFor
import HandS.SetBool
import HandS.TupSets
import HandS.WideBits
import HandS.RevRange
import HandS.More
import HandS.TupAny
import PyProof.AutoSeq1
import PyProof.StrOps2
import HandS.Codes
import HandS.SortInts
import PySem.Challenge.RW_reforge_k08_live_slots
set_option Elab.async false
set_option linter.all false
set_option maxRecDepth 100000
set_option maxHeartbeats 4000000
namespace Rf
open PySem PySem.Spec PyProof.Rows L2
/-! ### names of readings -/
abbrev rAddI : R2 := rI0 fun i j => .int (i + j)
abbrev rSubI : R2 := rI0 fun i j => .int (i - j)
abbrev rMulI : R2 := rI CMul fun i j => .int (i * j)
abbrev rMulW : R2 := rI CMulW fun i j => .int (i * j)
abbrev rDivI : R2 := rI CDiv fun i j => .int (i / j)
abbrev rDivW : R2 := rI CDivW fun i j => .int (i / j)
abbrev rModI : R2 := rI (fun _ j => 0 < j) fun i j => .int (i % j)
abbrev rPowI : R2 := rI CPow fun i j => .int (i ^ j.toNat)
abbrev rLtI : R2 := rI0 fun i j => .bl (decide (i < j))
abbrev rLeI : R2 := rI0 fun i j => .bl (decide (i ≤ j))
abbrev rGtI : R2 := rI0 fun i j => .bl (decide (j < i))
abbrev rGeI : R2 := rI0 fun i j => .bl (decide (j ≤ i))
abbrev rAddS : R2 := fun x y H Q => ∃ i j, x = .str i ∧ y = .str j ∧ i.length + j.length ≤ sizeLine ∧ Q (.str (i ++ j)) H
abbrev rIsN0 : R2 := fun x y H Q => y = .non ∧ Q (.bl (decide (x = .non))) H
abbrev rNotN0 : R2 := fun x y H Q => y = .non ∧ Q (.bl (!decide (x = .non))) H
def rLenS (K : PySem.W.Frag) : List V → Hp → VK → Prop := fun xs H Q => ∃ p ys, xs = [.ref p] ∧ (SqL K H p ys ∨ SqT K H p ys) ∧ Q (.int ys.length) H
def rLenT : List V → Hp → VK → Prop := fun xs H Q => ∃ z, xs = [.str z] ∧ z.length ≤ sizeLine ∧ Q (.int z.length) H
def rLenD : List V → Hp → VK → Prop := fun xs H Q => ∃ a kvs, xs = [V.ref a] ∧ Rd H a (.dK kvs) ∧ Q (.int kvs.length) H
def rInt1 : List V → Hp → VK → Prop := fun xs H Q => (∃ i, xs = [.int i] ∧ Q (.int i) H) ∨ ∃ k, xs = [.bl k] ∧ Q (.int (if k then 1 else 0)) H
def rStrI : List V → Hp → VK → Prop := fun xs H Q => ∃ i, xs = [.int i] ∧ i.natAbs.log2 < 1920 ∧ Q (.str (toString i)) H
def rAbsI : List V → Hp → VK → Prop := fun xs H Q => ∃ i, xs = [.int i] ∧ Q (.int (if i < 0 then -i else i)) H
def rMax2 : List V → Hp → VK → Prop := fun xs H Q => ∃ i j, xs = [.int i, .int j] ∧ Q (.int (if j > i then j else i)) H
def rMin2 : List V → Hp → VK → Prop := fun xs H Q => ∃ i j, xs = [.int i, .int j] ∧ Q (.int (if j < i then j else i)) H
def rListOf (K : PySem.W.Frag) : List V → Hp → VK → Prop := fun xs H Q => ∃ p ys, xs = [.ref p] ∧ (SqL K H p ys ∨ SqT K H p ys) ∧ ∀ l, H l = none → Q (.ref l) (upd H l (.lst ys))
def rJoin (K : PySem.W.Frag) : V → List V → Hp → VK → Prop := fun x xs H Q => ∃ a p, ∃ ys : List Str, x = .str a ∧ xs = [.ref p] ∧ (SqL K H p (ys.map V.str) ∨ SqT K H p (ys.map V.str)) ∧ (ys.map (·.length)).sum + ys.length * a.length ≤ 16777216 ∧ Q (.str (Txt.join a ys)) H
def rInsert : V → List V → Hp → VK → Prop := fun x vs H Q => ∃ (l : Addr) (xs : List V) (i : Int) (y : V), x = .ref l ∧ vs = [.int i, y] ∧ H l = some (.lst xs) ∧ xs.length < sizeLine ∧ 0 ≤ i ∧ i < 2 ^ 63 ∧ Q .non (upd H l (.lst (xs.take i.toNat ++ [y] ++ xs.drop i.toNat)))
def tTruth (K : PySem.W.Frag) (ta : TE) : TT := fun σ H Q => ta σ H fun x H' => ∃ k, TruV K x H' k ∧ Q k H'
section
variable {X : Cx}
theorem call_lenDR : CallR X (.builtin "len") rLenD := by
  intro pins s σ H xs us Q I r h
  obtain ⟨a, kvs, rfl, e, q⟩ := h
  obtain ⟨u, rfl, ru⟩ := vals1 r
  cases ru
  exact d_len I e fun t s' I' => ⟨.int kvs.length, H, I', ⟨t, rfl⟩, q⟩
end

/-! ### heaps -/
/-- all but what is in S stands as it did -/
def Keep (S : List Addr) (H H' : Hp) : Prop := ∀ a o, H a = some o → a ∉ S → H' a = some o
theorem Keep.refl {S : List Addr} {H : Hp} : Keep S H H := fun _ _ h _ => h
theorem Keep.trans {S : List Addr} {H H1 H2 : Hp} (a : Keep S H H1) (b : Keep S H1 H2) : Keep S H H2 := fun c o h n => b c o (a c o h n) n
theorem Keep.mono {S S' : List Addr} {H H1 : Hp} (a : Keep S H H1) (h : ∀ x, x ∈ S → x ∈ S') : Keep S' H H1 := fun c o e n => a c o e fun m => n (h c m)
theorem Keep.at {S : List Addr} {H H1 : Hp} {a : Addr} {o : HO} (k : Keep S H H1) (n : a ∉ S) (h : H a = some o) : H1 a = some o := k a o h n
theorem Keep.new {S : List Addr} {H : Hp} {p : Addr} {o : HO} (h : H p = none) : Keep S H (upd H p o) := fun a u e _ => by
  rw [upd_ne (ne_of_none e h)]
  exact e
theorem Keep.put {S : List Addr} {H : Hp} {p : Addr} {o : HO} (h : p ∈ S) : Keep S H (upd H p o) := fun a u e n => by
  rw [upd_ne (fun z => n (by rw [z]; exact h))]
  exact e
theorem Keep.same {H H1 : Hp} (k : Keep [] H H1) : Same H H1 := fun a o h => k a o h (by simp)
theorem Keep.of {H H1 : Hp} {S : List Addr} (k : Same H H1) : Keep S H H1 := fun a o h _ => k a o h
theorem Keep.free {S : List Addr} {H H1 : Hp} {l : Addr} (k : Keep S H H1) (h : H1 l = none) (n : l ∉ S) : H l = none := by
  cases q : H l with
  | none => rfl
  | some o =>
    rw [k l o q n] at h
    cases h
/-- an object that was not there may change -/
theorem Keep.fresh {S : List Addr} {H H1 : Hp} {p : Addr} {o : HO} (k : Keep S H H1) (h : H p = none) : Keep S H (upd H1 p o) := fun a u e n => by
  rw [upd_ne (ne_of_none e h)]
  exact k a u e n
theorem Keep.upd {S : List Addr} {H H1 : Hp} {p : Addr} {o : HO} (k : Keep S H H1) (h : p ∈ S) : Keep S H (L2.upd H1 p o) := k.trans (Keep.put h)
theorem Keep.rd {S : List Addr} {H H1 : Hp} {a : Addr} {u : HO} (k : Keep S H H1) (n : a ∉ S) (h : Rd H a u) : Rd H1 a u := by
  rcases h with h | ⟨o, h⟩
  · exact Or.inl (k a _ h n)
  · exact Or.inr ⟨o, k a _ h n⟩
theorem Keep.seq {K : PySem.W.Frag} {S : List Addr} {H H1 : Hp} {a : Addr} {xs : List V} (k : Keep S H H1) (n : a ∉ S) (h : SqL K H a xs) : SqL K H1 a xs := by
  rcases h with h | h
  · exact Or.inl (k.rd n h)
  · exact Or.inr h
theorem Keep.tup {K : PySem.W.Frag} {S : List Addr} {H H1 : Hp} {a : Addr} {xs : List V} (k : Keep S H H1) (n : a ∉ S) (h : SqT K H a xs) : SqT K H1 a xs := by
  rcases h with h | h
  · exact Or.inl (k.rd n h)
  · exact Or.inr h
theorem sqL {K : PySem.W.Frag} {H : Hp} {a : Addr} {xs : List V} (h : H a = some (.lst xs)) : SqL K H a xs := Or.inl (Or.inl h)
theorem sqT {K : PySem.W.Frag} {H : Hp} {a : Addr} {xs : List V} (h : H a = some (.tup xs)) : SqT K H a xs := Or.inl (Or.inl h)
theorem rdO {H : Hp} {a : Addr} {u : HO} (h : H a = some u) : Rd H a u := Or.inl h
theorem ne1 {a p : Addr} (h : a ≠ p) : a ∉ [p] := by simpa using h
theorem upd_ne' {H : Hp} {a b : Addr} {o x : HO} (h : b ≠ a) (e : H b = some x) : upd H a o b = some x := by rw [upd_ne h]; exact e
theorem sz {n : Nat} (h : n ≤ 100000) : n ≤ sizeLine := Nat.le_trans h (by decide)
theorem szL {n : Nat} (h : n < 100000) : n < sizeLine := Nat.lt_of_lt_of_le h (by decide)

/-! ### readings, one step each -/
section
variable {K : PySem.W.Frag} {D : Ends} {σ : L2.St} {H : Hp} {Q : VK} {x y z v : V} {ta tb tc te to ti tl : TE} {t u : TS} {c c' : TT} {i j k : Int} {n m : Nat} {p q a b : Addr} {xs ys vs : List V} {s s' : Str} {tA tA' : TA} {QA : List V → Hp → Prop} {QT : Bool → Hp → Prop} {kvs : List (Key × V)}
theorem go_seq (h : t { D with nx := u D } σ H) : tSeq t u D σ H := h
theorem go_next (h : D.nx σ H) : tNext D σ H := h
theorem go_brk (h : D.bk σ H) : tBreak D σ H := h
theorem go_cont (h : D.ct σ H) : tCont D σ H := h
theorem go_asgN (h : te σ H fun x H1 => D.nx (σ.set n (some x)) H1) : tAsg te (gName n) D σ H := h
theorem go_asgS {ts : TSet} (h : te σ H fun x H1 => to σ H1 fun o H2 => ti σ H2 fun i H3 => ts o i x H3 fun H4 => D.nx σ H4) : tAsg te (gSub to ti ts) D σ H := h
theorem go_asgG {g : TG} (h : te σ H fun x H1 => g x σ H1 D.nx) : tAsg te g D σ H := h
theorem go_gName {R : L2.St → Hp → Prop} (h : R (σ.set n (some v)) H) : gName n v σ H R := h
theorem go_drop (h : te σ H fun _ H1 => D.nx σ H1) : tDrop te D σ H := h
theorem go_ret (h : te σ H D.rt) : tRet te D σ H := h
theorem go_retN (h : D.rt .non H) : tRetN D σ H := h
theorem go_ifS (h : c σ H fun b H1 => if b = true then t D σ H1 else u D σ H1) : tIfS c t u D σ H := h
theorem go_var (h : σ[n]? = some (some v)) (q : Q v H) : tVar n σ H Q := ⟨v, h, q⟩
theorem go_c (q : Q v H) : tC v σ H Q := q
theorem go_op {r : R2} (h : ta σ H fun x H1 => tb σ H1 fun y H2 => r x y H2 Q) : tOp r ta tb σ H Q := h
theorem go_un {r : V → Hp → VK → Prop} (h : ta σ H fun x H1 => r x H1 Q) : tUn r ta σ H Q := h
theorem go_neg (q : Q (.int (-i)) H) : rU (fun i => .int (-i)) (.int i) H Q := ⟨i, rfl, q⟩
theorem go_add (q : Q (.int (i + j)) H) : rAddI (.int i) (.int j) H Q := ⟨i, j, rfl, rfl, q⟩
theorem go_sub (q : Q (.int (i - j)) H) : rSubI (.int i) (.int j) H Q := ⟨i, j, rfl, rfl, q⟩
theorem go_mul (h : CMul i j) (q : Q (.int (i * j)) H) : rMulI (.int i) (.int j) H Q := ⟨i, j, rfl, rfl, h, q⟩
theorem go_mulW (h : CMulW i j) (q : Q (.int (i * j)) H) : rMulW (.int i) (.int j) H Q := ⟨i, j, rfl, rfl, h, q⟩
theorem go_div (h0 : 0 < j) (h1 : j < 1073741824) (q : Q (.int (i / j)) H) : rDivI (.int i) (.int j) H Q := ⟨i, j, rfl, rfl, ⟨h0, h1⟩, q⟩
theorem go_divW (h : CDivW i j) (q : Q (.int (i / j)) H) : rDivW (.int i) (.int j) H Q := ⟨i, j, rfl, rfl, h, q⟩
theorem go_mod (h : 0 < j) (q : Q (.int (i % j)) H) : rModI (.int i) (.int j) H Q := ⟨i, j, rfl, rfl, h, q⟩
theorem go_pow (h : CPow i j) (q : Q (.int (i ^ j.toNat)) H) : rPowI (.int i) (.int j) H Q := ⟨i, j, rfl, rfl, h, q⟩
theorem go_lt (q : Q (.bl (decide (i < j))) H) : rLtI (.int i) (.int j) H Q := ⟨i, j, rfl, rfl, q⟩
theorem go_le (q : Q (.bl (decide (i ≤ j))) H) : rLeI (.int i) (.int j) H Q := ⟨i, j, rfl, rfl, q⟩
theorem go_gt (q : Q (.bl (decide (j < i))) H) : rGtI (.int i) (.int j) H Q := ⟨i, j, rfl, rfl, q⟩
theorem go_ge (q : Q (.bl (decide (j ≤ i))) H) : rGeI (.int i) (.int j) H Q := ⟨i, j, rfl, rfl, q⟩
theorem go_addS (h : s.length + s'.length ≤ sizeLine) (q : Q (.str (s ++ s')) H) : rAddS (.str s) (.str s') H Q := ⟨s, s', rfl, rfl, h, q⟩
theorem dec_int : decide (V.int i = V.int j) = decide (i = j) := by
  by_cases h : i = j
  · subst h; simp
  · have h' : ¬ V.int i = V.int j := fun z => h (V.int.inj z)
    rw [decide_eq_false h, decide_eq_false h']
theorem dec_str : decide (V.str s = V.str s') = decide (s = s') := by
  by_cases h : s = s'
  · subst h; simp
  · have h' : ¬ V.str s = V.str s' := fun z => h (V.str.inj z)
    rw [decide_eq_false h, decide_eq_false h']
theorem go_eqI (q : Q (.bl (decide (i = j))) H) : rEq (.int i) (.int j) H Q := ⟨rfl, by rw [dec_int]; exact q⟩
theorem go_neI (q : Q (.bl (!decide (i = j))) H) : rNe (.int i) (.int j) H Q := ⟨rfl, by rw [dec_int]; exact q⟩
theorem go_eqS (q : Q (.bl (decide (s = s'))) H) : rEq (.str s) (.str s') H Q := ⟨rfl, by rw [dec_str]; exact q⟩
theorem go_neS (q : Q (.bl (!decide (s = s'))) H) : rNe (.str s) (.str s') H Q := ⟨rfl, by rw [dec_str]; exact q⟩
theorem go_isN (q : Q (.bl true) H) : rIsN0 .non .non H Q := ⟨rfl, q⟩
theorem go_isNi (q : Q (.bl false) H) : rIsN0 (.int i) .non H Q := ⟨rfl, q⟩
theorem go_isNs (q : Q (.bl false) H) : rIsN0 (.str s) .non H Q := ⟨rfl, q⟩
theorem go_isNr (q : Q (.bl false) H) : rIsN0 (.ref a) .non H Q := ⟨rfl, q⟩
theorem go_notN (q : Q (.bl false) H) : rNotN0 .non .non H Q := ⟨rfl, q⟩
theorem go_notNi (q : Q (.bl true) H) : rNotN0 (.int i) .non H Q := ⟨rfl, q⟩
theorem go_notNs (q : Q (.bl true) H) : rNotN0 (.str s) .non H Q := ⟨rfl, q⟩
theorem go_notNr (q : Q (.bl true) H) : rNotN0 (.ref a) .non H Q := ⟨rfl, q⟩
theorem go_test (h : te σ H fun x H' => ∃ k, x = .bl k ∧ QT k H') : tTest te σ H QT := h
theorem go_tB (h : te σ H fun x H' => ∃ k, x = .bl k ∧ QT k H') : tB te σ H QT := h
theorem go_bl {b : Bool} {P : Bool → Prop} (h : P b) : ∃ k, V.bl b = .bl k ∧ P k := ⟨b, rfl, h⟩
theorem go_tAnd (h : c σ H fun b H1 => if b = true then c' σ H1 QT else QT false H1) : tAnd c c' σ H QT := h
theorem go_tOr (h : c σ H fun b H1 => if b = true then QT true H1 else c' σ H1 QT) : tOr c c' σ H QT := h
theorem go_tNot (h : c σ H fun b H1 => QT (!b) H1) : tNot c σ H QT := h
theorem go_andV (h : ta σ H fun x H1 => ∃ k, x = .bl k ∧ if k = true then tb σ H1 Q else Q (.bl false) H1) : tAndV ta tb σ H Q := h
theorem go_orV (h : ta σ H fun x H1 => ∃ k, x = .bl k ∧ if k = true then Q (.bl true) H1 else tb σ H1 Q) : tOrV ta tb σ H Q := h
theorem go_notV (h : ta σ H fun x H1 => ∃ k, x = .bl k ∧ Q (.bl (!k)) H1) : tNotV ta σ H Q := h
theorem go_tIf (h : c σ H fun b H1 => if b = true then ta σ H1 Q else tb σ H1 Q) : tIf c ta tb σ H Q := h
theorem go_ite {P : Prop} [Decidable P] {A B : Prop} (h1 : P → A) (h2 : ¬ P → B) : if decide P = true then A else B := by
  by_cases h : P
  · rw [decide_eq_true h]; exact h1 h
  · rw [decide_eq_false h]; exact h2 h
theorem go_iteN {P : Prop} [Decidable P] {A B : Prop} (h1 : ¬ P → A) (h2 : P → B) : if (!decide P) = true then A else B := by
  by_cases h : P
  · rw [decide_eq_true h]; exact h2 h
  · rw [decide_eq_false h]; exact h1 h
theorem go_iteB {b : Bool} {A B : Prop} (h1 : b = true → A) (h2 : b = false → B) : if b = true then A else B := by
  cases b
  · exact h2 rfl
  · exact h1 rfl
theorem go_iteNB {b : Bool} {A B : Prop} (h1 : b = false → A) (h2 : b = true → B) : if (!b) = true then A else B := by
  cases b
  · exact h1 rfl
  · exact h2 rfl
theorem go_iteT {A B : Prop} (h : A) : if true = true then A else B := h
theorem go_iteF {A B : Prop} (h : B) : if false = true then A else B := by rw [if_neg Bool.false_ne_true]; exact h
theorem go_nT {A B : Prop} (h : B) : if (!true) = true then A else B := by rw [Bool.not_true, if_neg Bool.false_ne_true]; exact h
theorem go_nF {A B : Prop} (h : A) : if (!false) = true then A else B := h
theorem go_cb {r : List V → Hp → VK → Prop} (h : tA σ H fun vs H1 => r vs H1 Q) : tCB r tA σ H Q := h
theorem go_cons (h : ta σ H fun x H1 => tA σ H1 fun xs H2 => QA (x :: xs) H2) : tCons ta tA σ H QA := h
theorem go_nil (h : QA [] H) : tNil σ H QA := h
theorem go_tup (h : tA σ H fun xs H1 => xs.length ≤ sizeLine ∧ ∀ p, H1 p = none → Q (.ref p) (upd H1 p (.tup xs))) : tTup tA σ H Q := h
theorem go_lst (h : tA σ H fun xs H1 => xs.length ≤ sizeLine ∧ ∀ p, H1 p = none → Q (.ref p) (upd H1 p (.lst xs))) : tLst tA σ H Q := h
theorem go_call {sp : Sp} {dvs : List V} {E : XK} (h : tA σ H fun vs H1 => sp (vs ++ dvs) H1 Q E) : tCall sp dvs E tA σ H Q := h
theorem go_bm {ty : String} {r : V → List V → Hp → VK → Prop} (h : to σ H fun x H1 => tyV K ty x H1 ∧ tA σ H1 fun xs H2 => r x xs H2 Q) : tBM K ty r to tA σ H Q := h
theorem go_bm0 {ty : String} {r : V → List V → Hp → VK → Prop} (h : to σ H fun x H1 => tyV K ty x H1 ∧ r x [] H1 Q) : tBM0 K ty r to σ H Q := h
theorem go_tyL (h : H p = some (.lst xs)) {B : Prop} (q : B) : tyV K "list" (.ref p) H ∧ B := ⟨Or.inl ⟨rfl, xs, sqL h⟩, q⟩
theorem go_ixL (h : SqL K H p xs) (ha : atI xs i = some v) (q : Q v H) : rIxL K (.ref p) (.int i) H Q := ⟨p, xs, i, v, rfl, rfl, h, ha, q⟩
theorem go_ixT (h : SqT K H p xs) (ha : atI xs i = some v) (q : Q v H) : rIxT K (.ref p) (.int i) H Q := ⟨p, xs, i, v, rfl, rfl, h, ha, q⟩
theorem go_setL {R : Hp → Prop} (h : H p = some (.lst xs)) (hj : ixN xs.length k = some n) (e : xs.set n v = ys) (q : R (upd H p (.lst ys))) : rSetL (.ref p) (.int k) v H R := ⟨p, xs, k, n, rfl, rfl, h, hj, by rw [e]; exact q⟩
theorem go_app (h : H p = some (.lst xs)) (hl : xs.length < sizeLine) (q : Q .non (upd H p (.lst (xs ++ [v])))) : rAppend (.ref p) [v] H Q := ⟨p, xs, v, rfl, rfl, h, hl, q⟩
theorem go_pop (h : H p = some (.lst (xs ++ [v]))) (q : Q v (upd H p (.lst xs))) : rPop (.ref p) [] H Q := ⟨p, xs ++ [v], v, rfl, rfl, h, by simp, by rw [List.dropLast_concat]; exact q⟩
theorem go_lenL (h : SqL K H p xs) (q : Q (.int xs.length) H) : rLenS K [.ref p] H Q := ⟨p, xs, rfl, Or.inl h, q⟩
theorem go_lenT (h : SqT K H p xs) (q : Q (.int xs.length) H) : rLenS K [.ref p] H Q := ⟨p, xs, rfl, Or.inr h, q⟩
theorem go_lenS (h : s.length ≤ sizeLine) (q : Q (.int s.length) H) : rLenT [.str s] H Q := ⟨s, rfl, h, q⟩
theorem go_lenD (h : Rd H p (.dK kvs)) (q : Q (.int kvs.length) H) : rLenD [.ref p] H Q := ⟨p, kvs, rfl, h, q⟩
theorem go_int (q : Q (.int i) H) : rInt1 [.int i] H Q := Or.inl ⟨i, rfl, q⟩
theorem go_intB {b : Bool} (q : Q (.int (if b then 1 else 0)) H) : rInt1 [.bl b] H Q := Or.inr ⟨b, rfl, q⟩
theorem go_sum {ns : List Int} (h : SqL K H p (ns.map V.int)) (q : Q (.int ns.sum) H) : rSum K [.ref p] H Q := ⟨p, ns, rfl, h, q⟩
theorem go_listL (h : SqL K H p xs) (q : ∀ l, H l = none → Q (.ref l) (upd H l (.lst xs))) : rListOf K [.ref p] H Q := ⟨p, xs, rfl, Or.inl h, q⟩
theorem go_listT (h : SqT K H p xs) (q : ∀ l, H l = none → Q (.ref l) (upd H l (.lst xs))) : rListOf K [.ref p] H Q := ⟨p, xs, rfl, Or.inr h, q⟩
theorem go_dgetI {r : Option V} (h : Rd H a (.dK kvs)) (e : valV kvs (Sum.inl i) = r) : DGet H a (.int i) r := Or.inl ⟨kvs, .inl i, h, rfl, e.symm⟩
theorem go_dgetS {r : Option V} (h : Rd H a (.dK kvs)) (e : valV kvs (Sum.inr s) = r) : DGet H a (.str s) r := Or.inl ⟨kvs, .inr s, h, rfl, e.symm⟩
theorem go_dget (h : ta σ H fun x H1 => tb σ H1 fun y H2 => ∃ a v, x = .ref a ∧ DGet H2 a y (some v) ∧ Q v H2) : tDGet ta tb σ H Q := h
theorem go_dgetE (h : DGet H a y (some v)) (q : Q v H) : ∃ a' v', V.ref a = .ref a' ∧ DGet H a' y (some v') ∧ Q v' H := ⟨a, v, rfl, h, q⟩
theorem go_dinT (h : ta σ H fun y H1 => tb σ H1 fun x H2 => ∃ a o, x = .ref a ∧ DGet H2 a y o ∧ Q (.bl o.isSome) H2) : tDIn ta tb σ H Q := h
theorem go_dninT (h : ta σ H fun y H1 => tb σ H1 fun x H2 => ∃ a o, x = .ref a ∧ DGet H2 a y o ∧ Q (.bl (!o.isSome)) H2) : tDNotIn ta tb σ H Q := h
theorem go_dinE {o : Option V} {P : Option V → Prop} (h : DGet H a y o) (q : P o) : ∃ a' o', V.ref a = .ref a' ∧ DGet H a' y o' ∧ P o' := ⟨a, o, rfl, h, q⟩
theorem go_dput (h : tc σ H fun v H1 => ta σ H1 fun x H2 => tb σ H2 fun y H3 => ∃ a H4, x = .ref a ∧ DPut H3 a y v H4 ∧ D.nx σ H4) : sDPut ta tb tc D σ H := h
theorem go_dputI {P : Hp → Prop} (h : H a = some (.dK kvs)) (hl : kvs.length < sizeLine) (q : P (upd H a (.dK (putK kvs (Sum.inl i) v)))) : ∃ a' H4, V.ref a = .ref a' ∧ DPut H a' (.int i) v H4 ∧ P H4 :=
  ⟨a, _, rfl, Or.inl ⟨kvs, .inl i, h, rfl, hl, rfl⟩, q⟩
theorem go_dputS {P : Hp → Prop} (h : H a = some (.dK kvs)) (hl : kvs.length < sizeLine) (q : P (upd H a (.dK (putK kvs (Sum.inr s) v)))) : ∃ a' H4, V.ref a = .ref a' ∧ DPut H a' (.str s) v H4 ∧ P H4 :=
  ⟨a, _, rfl, Or.inl ⟨kvs, .inr s, h, rfl, hl, rfl⟩, q⟩
theorem go_dnew (h : ∀ p, H p = none → Q (.ref p) (upd H p (.dK []))) : tDNewK σ H Q := h
theorem go_sl {r : V → Option Int → Option Int → Hp → VK → Prop} {tx ty : TO} (h : te σ H fun x H1 => tx σ H1 fun l H2 => ty σ H2 fun u H3 => r x l u H3 Q) : tSl r te tx ty σ H Q := h
theorem go_noPart {R : Option Int → Hp → Prop} (h : R none H) : tNoPart σ H R := h
theorem go_part {R : Option Int → Hp → Prop} (h : te σ H fun x H1 => ∃ i, x = .int i ∧ R (some i) H1) : tPart te σ H R := h
theorem go_partI {P : Int → Prop} (h : P i) : ∃ i', V.int i = .int i' ∧ P i' := ⟨i, rfl, h⟩
theorem go_slL {lo hi : Option Int} (h : SqL K H a xs) (q : ∀ p, H p = none → Q (.ref p) (upd H p (.lst (cutV xs lo hi)))) : rSlL K (.ref a) lo hi H Q := ⟨a, xs, rfl, h, q⟩
theorem go_truth (h : ta σ H fun x H' => ∃ k, TruV K x H' k ∧ QT k H') : tTruth K ta σ H QT := h
theorem go_listD (h : H p = some (.dK kvs)) (q : ∀ l, H l = none → Q (.ref l) (upd H l (.lst (kvs.map fun kv => kV kv.1)))) : rListD [.ref p] H Q := ⟨p, kvs, rfl, h, q⟩
end
theorem natAbs64 {i : Int} (h0 : -18446744073709551616 < i) (h1 : i < 18446744073709551616) : i.natAbs < 2 ^ 64 := by omega
theorem cmulW {i j : Int} (h0 : -18446744073709551616 < i) (h1 : i < 18446744073709551616) (h2 : -18446744073709551616 < j) (h3 : j < 18446744073709551616) : CMulW i j :=
  wide_mul (natAbs64 h0 h1) (natAbs64 h2 h3) (by decide) (by decide) (by decide)
theorem cdivW {i j : Int} (h0 : 0 < j) (h1 : j < 18446744073709551616) : CDivW i j := wide_div h0 (natAbs64 (by omega) h1) (by decide) (by decide)
/-! ### lists of ints compared -/
theorem dpAll_ints {K : PySem.W.Frag} {H : Hp} : ∀ xs : List Int, DpAll K H (xs.map V.int) (xs.map PyData.int)
  | [] => .nil
  | x :: xs => .cons (.int x) (dpAll_ints xs)
theorem depthAll_ints : ∀ xs : List Int, PyData.depthAll (xs.map PyData.int) = 0
  | [] => by simp [PyData.depthAll]
  | x :: xs => by simp [PyData.depthAll, PyData.depth, depthAll_ints xs]
theorem canAll_ints : ∀ xs : List Int, PyData.canLayAll0 (xs.map PyData.int) = true
  | [] => by simp [PyData.canLayAll0]
  | x :: xs => by simp [PyData.canLayAll0, PyData.canLay0, canAll_ints xs]
theorem shaped_ints (xs : List Int) : SeqAt.shaped (.list (xs.map PyData.int)) = true := by
  simp [SeqAt.shaped, PyData.canLay0, PyData.depth, canAll_ints, depthAll_ints]
theorem eqvAll_ints : ∀ xs ys : List Int, PyData.eqvAll (xs.map PyData.int) (ys.map PyData.int) = decide (xs = ys)
  | [], [] => by simp [PyData.eqvAll]
  | [], y :: ys => by simp [PyData.eqvAll]
  | x :: xs, [] => by simp [PyData.eqvAll]
  | x :: xs, y :: ys => by
    simp only [List.map_cons, PyData.eqvAll, PyData.eqv, eqvAll_ints xs ys, List.cons.injEq]
    by_cases h : x = y <;> simp [h]
theorem go_eqInts {K : PySem.W.Frag} {H : Hp} {a b : Addr} {xs ys : List Int} {Q : VK} (h : SqL K H a (xs.map V.int)) (h' : SqL K H b (ys.map V.int)) (q : Q (.bl (decide (xs = ys))) H) : rEqD K (.ref a) (.ref b) H Q :=
  ⟨_, _, .lst h (dpAll_ints xs), .lst h' (dpAll_ints ys), shaped_ints xs, shaped_ints ys, by
    show Q (.bl (PyData.eqvAll (xs.map PyData.int) (ys.map PyData.int))) H
    rw [eqvAll_ints]; exact q⟩
theorem go_pair {A B : Prop} (h : A) (q : B) : A ∧ B := ⟨h, q⟩
theorem go_eqNil {K : PySem.W.Frag} {H : Hp} {a b : Addr} {xs : List Int} {Q : VK} (h : SqL K H a (xs.map V.int)) (h' : SqL K H b []) (q : Q (.bl (decide (xs = []))) H) : rEqD K (.ref a) (.ref b) H Q :=
  go_eqInts (ys := []) h h' q
theorem go_alloc {n : Nat} {H : Hp} {R : Addr → Prop} (h : n ≤ sizeLine) (q : ∀ p, H p = none → R p) : n ≤ sizeLine ∧ ∀ p, H p = none → R p := ⟨h, q⟩
section
variable {σ : L2.St} {H : Hp} {c c' : TT} {QT : Bool → Hp → Prop} {P P' : Prop} [Decidable P] [Decidable P']
theorem go_or2 (h1 : ∀ R : Bool → Hp → Prop, R (decide P) H → c σ H R) (h2 : ∀ R : Bool → Hp → Prop, R (decide P') H → c' σ H R) (q : QT (decide (P ∨ P')) H) : tOr c c' σ H QT := by
  refine h1 _ ?_
  refine go_ite (fun h => ?_) (fun h => ?_)
  · rw [decide_eq_true (Or.inl h)] at q; exact q
  · refine h2 _ ?_
    have e : decide P' = decide (P ∨ P') := by simp [h]
    rw [e]; exact q
theorem go_and2 (h1 : ∀ R : Bool → Hp → Prop, R (decide P) H → c σ H R) (h2 : P → ∀ R : Bool → Hp → Prop, R (decide P') H → c' σ H R) (q : QT (decide (P ∧ P')) H) : tAnd c c' σ H QT := by
  refine h1 _ ?_
  refine go_ite (fun h => ?_) (fun h => ?_)
  · refine h2 h _ ?_
    have e : decide P' = decide (P ∧ P') := by simp [h]
    rw [e]; exact q
  · have e : decide (P ∧ P') = false := by simp [h]
    rw [e] at q; exact q
theorem go_not1 (h1 : ∀ R : Bool → Hp → Prop, R (decide P) H → c σ H R) (q : QT (decide (¬ P)) H) : tNot c σ H QT := by
  refine h1 _ ?_
  have e : (!decide P) = decide (¬ P) := by simp
  rw [e]; exact q
theorem bnot_dec : (!decide P) = decide (¬ P) := by simp
end
/-! ### loops -/
def ForQ (J : It) (g : TG) (tb : TS) (D : Ends) (σ : L2.St) (H : Hp) : Prop := ∃ W : Nat → Nat → L2.St → Hp → Prop, (∃ m, W 0 m σ H) ∧ ∀ i m σ H, W i m σ H →
  (J.stop i H ∧ D.nx σ H) ∨ (J.go i H ∧ ∃ N : L2.St → Hp → Prop, (∀ σ' H', N σ' H' → ∃ m', m' < m ∧ W (i + 1) m' σ' H') ∧ ∀ x H', J.yld i H x H' → g x σ H' fun σ2 H2 => tb { D with nx := N, ct := N, bk := D.nx } σ2 H2)
section
variable {K : PySem.W.Frag} {D : Ends} {σ : L2.St} {H : Hp} {Q : VK} {g : TG} {tb : TS} {wi : TI} {a d : Addr} {xs : List V} {lo : Int} {n : Nat} {c : TT} {tl : TE} {ta : TA} {R : It → Hp → Prop}
theorem go_for (h : wi σ H fun J H1 => ForQ J g tb D σ H1) : tFor wi g tb D σ H := h
theorem go_iList (h : tl σ H fun x H1 => ∃ a, x = .ref a ∧ (∃ xs, SqL K H1 a xs) ∧ R (Itl K a) H1) : iList K tl σ H R := h
theorem go_iTup (h : tl σ H fun x H1 => ∃ a, x = .ref a ∧ (∃ xs, SqT K H1 a xs) ∧ R (Itt K a) H1) : iTup K tl σ H R := h
theorem go_iRng1 (h : ta σ H fun vs H1 => ∃ j : Int, vs = [.int j] ∧ -(2 ^ 62) ≤ j ∧ j < 2 ^ 62 ∧ R (Itr 0 j.toNat) H1) : iRng1 ta σ H R := h
theorem go_iRng2 (h : ta σ H fun vs H1 => ∃ i j : Int, vs = [.int i, .int j] ∧ (-(2 ^ 62) ≤ i ∧ i < 2 ^ 62 ∧ -(2 ^ 62) ≤ j ∧ j < 2 ^ 62) ∧ R (Itr i (j - i).toNat) H1) : iRng2 ta σ H R := h
theorem go_rng1 {j : Int} {P : It → Prop} (h1 : -4611686018427387904 ≤ j) (h2 : j < 4611686018427387904) (q : P (Itr 0 j.toNat)) : ∃ j' : Int, [V.int j] = [V.int j'] ∧ -(2 ^ 62) ≤ j' ∧ j' < 2 ^ 62 ∧ P (Itr 0 j'.toNat) := ⟨j, rfl, h1, h2, q⟩
theorem for_pre {xs : List V} {Pv : List V → Prop} {i : Nat} {x : V} (hi : xs[i]? = some x) : xs = xs.take i ++ x :: xs.drop (i + 1) ∧ xs.take (i + 1) = xs.take i ++ [x] := by
  obtain ⟨h, rfl⟩ := List.getElem?_eq_some_iff.mp hi
  refine ⟨?_, ?_⟩
  · rw [List.getElem_cons_drop, List.take_append_drop]
  · rw [List.take_succ_eq_append_getElem h]
/-- for x in xs: Pv by the part taken -/
theorem go_forL (hS : SqL K H a xs) (Pv : List V → L2.St → Hp → Prop) (h0 : Pv [] σ H) (hl : ∀ pre σ' H', Pv pre σ' H' → SqL K H' a xs)
    (hs : ∀ pre x post σ' H', xs = pre ++ x :: post → Pv pre σ' H' → g x σ' H' fun σ2 H2 => tb { D with nx := Pv (pre ++ [x]), ct := Pv (pre ++ [x]), bk := D.nx } σ2 H2)
    (hd : ∀ σ' H', Pv xs σ' H' → D.nx σ' H') : ∃ a', V.ref a = .ref a' ∧ (∃ xs, SqL K H a' xs) ∧ ForQ (Itl K a') g tb D σ H := by
  refine ⟨a, rfl, ⟨xs, hS⟩, for_list (K := K) (a := a) (xs := xs) (fun i σ H => Pv (xs.take i) σ H) h0 (fun i σ H _ p => hl _ _ _ p) (fun i x σ' H' hi p => ?_) (fun σ' H' p => hd σ' H' (by rw [List.take_length] at p; exact p))⟩
  obtain ⟨e1, e2⟩ := for_pre (Pv := fun _ => True) hi
  have := hs (xs.take i) x (xs.drop (i + 1)) σ' H' e1 p
  rw [← e2] at this
  exact this
theorem go_forT (hS : SqT K H a xs) (Pv : List V → L2.St → Hp → Prop) (h0 : Pv [] σ H) (hl : ∀ pre σ' H', Pv pre σ' H' → SqT K H' a xs)
    (hs : ∀ pre x post σ' H', xs = pre ++ x :: post → Pv pre σ' H' → g x σ' H' fun σ2 H2 => tb { D with nx := Pv (pre ++ [x]), ct := Pv (pre ++ [x]), bk := D.nx } σ2 H2)
    (hd : ∀ σ' H', Pv xs σ' H' → D.nx σ' H') : ∃ a', V.ref a = .ref a' ∧ (∃ xs, SqT K H a' xs) ∧ ForQ (Itt K a') g tb D σ H := by
  refine ⟨a, rfl, ⟨xs, hS⟩, for_tup (K := K) (a := a) (xs := xs) (fun i σ H => Pv (xs.take i) σ H) h0 (fun i σ H _ p => hl _ _ _ p) (fun i x σ' H' hi p => ?_) (fun σ' H' p => hd σ' H' (by rw [List.take_length] at p; exact p))⟩
  obtain ⟨e1, e2⟩ := for_pre (Pv := fun _ => True) hi
  have := hs (xs.take i) x (xs.drop (i + 1)) σ' H' e1 p
  rw [← e2] at this
  exact this
/-- for k in range(..): Pv by the turn -/
theorem go_forR (Pv : Nat → L2.St → Hp → Prop) (h0 : Pv 0 σ H) (hs : ∀ (i : Nat) σ' H', i < n → Pv i σ' H' → g (.int (lo + i)) σ' H' fun σ2 H2 => tb { D with nx := Pv (i + 1), ct := Pv (i + 1), bk := D.nx } σ2 H2)
    (hd : ∀ σ' H', Pv n σ' H' → D.nx σ' H') : ForQ (Itr lo n) g tb D σ H := for_range Pv h0 hs hd
/-- while -/
theorem go_while (Pv : Nat → L2.St → Hp → Prop) (m : Nat) (h0 : Pv m σ H)
    (hs : ∀ m σ' H', Pv m σ' H' → c σ' H' fun b H1 => if b = true then ∃ N : L2.St → Hp → Prop, (∀ σ2 H2, N σ2 H2 → ∃ m', m' < m ∧ Pv m' σ2 H2) ∧ tb { D with nx := N, ct := N, bk := D.nx } σ' H1 else D.nx σ' H1) : tWhile c tb D σ H :=
  ⟨Pv, ⟨m, h0⟩, hs⟩
theorem go_turn {Pv : Nat → L2.St → Hp → Prop} {m : Nat} {B : (L2.St → Hp → Prop) → Prop} (h : B fun σ2 H2 => ∃ m', m' < m ∧ Pv m' σ2 H2) : ∃ N : L2.St → Hp → Prop, (∀ σ2 H2, N σ2 H2 → ∃ m', m' < m ∧ Pv m' σ2 H2) ∧ B N := ⟨_, fun _ _ h => h, h⟩
/-- for k in d: the dict locked, Pv by the part taken -/
def lockEnds (D : Ends) (d : Addr) (od : Obj) (u : HO) : Ends := ⟨fun σ' H' => H' d = some (.frz od u) ∧ D.nx σ' (upd H' d u), fun v H' => H' d = some (.frz od u) ∧ D.rt v (upd H' d u), fun σ' H' => H' d = some (.frz od u) ∧ D.bk σ' (upd H' d u), fun σ' H' => H' d = some (.frz od u) ∧ D.ct σ' (upd H' d u)⟩
theorem go_forK {kvs : List (Key × V)} (hv : σ[n]? = some (some (.ref d))) (hk : H d = some (.dK kvs)) (Pv : Obj → List (Key × V) → L2.St → Hp → Prop) (h0 : ∀ od, Pv od [] σ (upd H d (.frz od (.dK kvs))))
    (hl : ∀ od pre σ' H', Pv od pre σ' H' → H' d = some (.frz od (.dK kvs)))
    (hs : ∀ od pre k v post σ' H', kvs = pre ++ (k, v) :: post → Pv od pre σ' H' → g (kV k) σ' H' fun σ2 H2 => tb { lockEnds D d od (.dK kvs) with nx := Pv od (pre ++ [(k, v)]), ct := Pv od (pre ++ [(k, v)]), bk := (lockEnds D d od (.dK kvs)).nx } σ2 H2)
    (hd : ∀ od σ' H', Pv od kvs σ' H' → D.nx σ' (upd H' d (.dK kvs))) : tLock (tFor (iKeys (tVar n)) g tb) D σ H := by
  refine ⟨d, .dK kvs, hk, trivial, fun od => ?_⟩
  refine ⟨.ref d, hv, d, od, rfl, Or.inl ⟨kvs, upd_same, ?_⟩⟩
  refine ⟨fun i m σ' H' => m = kvs.length - i ∧ i ≤ kvs.length ∧ Pv od (kvs.take i) σ' H', ⟨kvs.length, by simp, Nat.zero_le _, h0 od⟩, ?_⟩
  rintro i m σ' H' ⟨rfl, hi, p⟩
  have q := hl _ _ _ _ p
  by_cases hlt : i < kvs.length
  · refine .inr ⟨⟨q, hlt⟩, Pv od (kvs.take (i + 1)), fun σ2 H2 p' => ⟨kvs.length - (i + 1), by omega, rfl, hlt, p'⟩, fun x H2 y => ?_⟩
    obtain ⟨e, k, v, ek, ex⟩ := y
    subst e ex
    obtain ⟨h, e⟩ := List.getElem?_eq_some_iff.mp ek
    have e1 : kvs = kvs.take i ++ (k, v) :: kvs.drop (i + 1) := by rw [← e, List.getElem_cons_drop, List.take_append_drop]
    have e2 : kvs.take (i + 1) = kvs.take i ++ [(k, v)] := by rw [List.take_succ_eq_append_getElem h, e]
    rw [e2]
    exact hs od (kvs.take i) k v (kvs.drop (i + 1)) σ' _ e1 p
  · have e : i = kvs.length := by omega
    subst e
    rw [List.take_length] at p
    exact .inl ⟨⟨q, Nat.le_refl _⟩, q, hd od σ' H' p⟩
end
/-! ### comprehensions -/
def LcQ (J : It) (g : TG) (tt : TT) (te : TE) (vs : List Nat) (Q : VK) (σ : L2.St) (H1 : Hp) : Prop := ∀ D, H1 D = none → ∃ W : Nat → Nat → Hp → Prop, (∃ m, W 0 m (upd H1 D (.lst []))) ∧ ∀ i m H, W i m H →
  (J.stop i H ∧ Q (.ref D) H) ∨ (J.go i H ∧ ∃ Nx : Hp → Prop, (∀ H', Nx H' → ∃ m', m' < m ∧ W (i + 1) m' H') ∧ ∀ x H', J.yld i H x H' → g x (wipe σ vs) H' fun σ2 H2 => wipe σ2 vs = wipe σ vs ∧ tt σ2 H2 fun b H3 =>
    if b = true then te σ2 H3 fun y H4 => ∃ acc, H4 D = some (.lst acc) ∧ acc.length < sizeLine ∧ Nx (upd H4 D (.lst (acc ++ [y]))) else Nx H3)
section
variable {K : PySem.W.Frag} {σ : L2.St} {H : Hp} {Q : VK} {g : TG} {tt : TT} {te : TE} {wi : TI} {a : Addr} {xs : List V} {lo : Int} {n : Nat} {vs : List Nat}
theorem go_lc (h : wi σ H fun J H1 => LcQ J g tt te vs Q σ H1) : tLc wi g tt te vs σ H Q := h
theorem go_lcL (hS : SqL K H a xs) (Pv : Addr → List V → Hp → Prop) (h0 : ∀ Dn, H Dn = none → Pv Dn [] (upd H Dn (.lst []))) (hl : ∀ Dn pre H', Pv Dn pre H' → SqL K H' a xs)
    (hs : ∀ Dn pre x post H', H Dn = none → xs = pre ++ x :: post → Pv Dn pre H' → g x (wipe σ vs) H' fun σ2 H2 => wipe σ2 vs = wipe σ vs ∧ tt σ2 H2 fun b H3 =>
      if b = true then te σ2 H3 fun y H4 => ∃ acc, H4 Dn = some (.lst acc) ∧ acc.length < sizeLine ∧ Pv Dn (pre ++ [x]) (upd H4 Dn (.lst (acc ++ [y]))) else Pv Dn (pre ++ [x]) H3)
    (hd : ∀ Dn H', H Dn = none → Pv Dn xs H' → Q (.ref Dn) H') : ∃ a', V.ref a = .ref a' ∧ (∃ xs, SqL K H a' xs) ∧ LcQ (Itl K a') g tt te vs Q σ H := by
  refine ⟨a, rfl, ⟨xs, hS⟩, fun Dn hD => ?_⟩
  refine lc_list (K := K) (a := a) (xs := xs) (fun i H => Pv Dn (xs.take i) H) (h0 Dn hD) (fun i H _ p => hl _ _ _ p) (fun i x H' hi p => ?_) (fun H' p => hd Dn H' hD (by rw [List.take_length] at p; exact p))
  obtain ⟨e1, e2⟩ := for_pre (Pv := fun _ => True) hi
  have := hs Dn (xs.take i) x (xs.drop (i + 1)) H' hD e1 p
  rw [← e2] at this
  exact this
theorem go_lcR (Pv : Addr → Nat → Hp → Prop) (h0 : ∀ Dn, H Dn = none → Pv Dn 0 (upd H Dn (.lst [])))
    (hs : ∀ Dn (i : Nat) H', H Dn = none → i < n → Pv Dn i H' → g (.int (lo + i)) (wipe σ vs) H' fun σ2 H2 => wipe σ2 vs = wipe σ vs ∧ tt σ2 H2 fun b H3 =>
      if b = true then te σ2 H3 fun y H4 => ∃ acc, H4 Dn = some (.lst acc) ∧ acc.length < sizeLine ∧ Pv Dn (i + 1) (upd H4 Dn (.lst (acc ++ [y]))) else Pv Dn (i + 1) H3)
    (hd : ∀ Dn H', H Dn = none → Pv Dn n H' → Q (.ref Dn) H') : LcQ (Itr lo n) g tt te vs Q σ H := fun Dn hD =>
  lc_range (Pv Dn) (h0 Dn hD) (fun i H' hi p => hs Dn i H' hD hi p) (fun H' p => hd Dn H' hD p)
/-- [f x for x in xs], nothing written -/
theorem go_lcM {j : Nat} (hS : SqL K H a xs) (f : V → V) (hl : xs.length < sizeLine) (hw2 : ∀ v, wipe ((wipe σ vs).set j (some v)) vs = wipe σ vs)
    (he : ∀ x ∈ xs, ∀ (H' : Hp) (R : VK), Keep [] H H' → R (f x) H' → te ((wipe σ vs).set j (some x)) H' R)
    (hd : ∀ Dn, H Dn = none → Q (.ref Dn) (upd H Dn (.lst (xs.map f)))) : ∃ a', V.ref a = .ref a' ∧ (∃ xs, SqL K H a' xs) ∧ LcQ (Itl K a') (gName j) tYes te vs Q σ H := by
  refine go_lcL hS (fun Dn pre H' => H' = upd H Dn (.lst (pre.map f)) ∧ H Dn = none) (fun Dn hD => ⟨rfl, hD⟩) (fun Dn pre H' ⟨e, hD⟩ => ?_) (fun Dn pre x post H' hD ex ⟨e, _⟩ => ?_) (fun Dn H' hD ⟨e, _⟩ => ?_)
  · rw [e]; exact (Keep.new (S := []) hD).seq (by simp) hS
  · subst e
    refine ⟨hw2 x, ?_⟩
    unfold tYes
    dsimp only
    rw [if_pos rfl]
    refine he x (by rw [ex]; simp) _ _ (Keep.new hD) ?_
    have hlt : (pre.map f).length < sizeLine := by
      have : pre.length < xs.length := by rw [ex, List.length_append, List.length_cons]; omega
      rw [List.length_map]; omega
    refine ⟨_, upd_same, hlt, ?_, hD⟩
    rw [upd_upd, List.map_append]
    rfl
  · subst e; exact hd Dn hD
end
/-! ### dicts of ints, lists of pairs -/
def dI (l : List (Int × Int)) : List (Key × V) := l.map fun p => (Sum.inl p.1, V.int p.2)
def Tup2 (H : Hp) (a : Addr) (p : Int × Int) : Prop := H a = some (.tup [.int p.1, .int p.2])
theorem Tup2.keep {S : List Addr} {H H' : Hp} (k : Keep S H H') (ns : ∀ a ∈ S, ∀ xs, H a ≠ some (.tup xs)) {as : List Addr} {ms : List (Int × Int)} (h : Paired (Tup2 H) as ms) : Paired (Tup2 H') as ms :=
  Paired.mapP h fun a p e => k a _ e fun m => ns a m _ e
theorem Paired.get {α β : Type} {F : α → β → Prop} : ∀ {l : List α} {r : List β} {i : Nat} {x : α}, Paired F l r → l[i]? = some x → ∃ y, r[i]? = some y ∧ F x y
  | _, _, _, _, .nil, e => by simp at e
  | _, _, 0, _, .cons h _, e => by simp at e; subst e; exact ⟨_, rfl, h⟩
  | _, _, i + 1, _, .cons _ t, e => by
    obtain ⟨y, e1, e2⟩ := Paired.get (i := i) t (by simpa using e)
    exact ⟨y, by simpa using e1, e2⟩
theorem Paired.split {α β : Type} {F : α → β → Prop} : ∀ {l l2 : List α} {r : List β}, Paired F (l ++ l2) r → ∃ r1 r2, r = r1 ++ r2 ∧ Paired F l r1 ∧ Paired F l2 r2
  | [], l2, r, h => ⟨[], r, rfl, .nil, h⟩
  | a :: l, l2, _, .cons h t => by
    obtain ⟨r1, r2, e, h1, h2⟩ := Paired.split (l := l) t
    exact ⟨_ :: r1, r2, by rw [e]; rfl, .cons h h1, h2⟩
theorem Paired.app {α β : Type} {F : α → β → Prop} : ∀ {l l2 : List α} {r r2 : List β}, Paired F l r → Paired F l2 r2 → Paired F (l ++ l2) (r ++ r2)
  | _, _, _, _, .nil, h => h
  | _, _, _, _, .cons a t, h => .cons a (Paired.app t h)
theorem inV_ints {x : Int} {l : List Int} : inV (.int x) (l.map V.int) = decide (x ∈ l) := by
  induction l with
  | nil => rfl
  | cons a l ih =>
    have e : inV (.int x) ((a :: l).map V.int) = (eqV (.int a) (.int x) || inV (.int x) (l.map V.int)) := rfl
    rw [e, ih]
    have e2 : eqV (.int a) (.int x) = decide (a = x) := by show (a == x) = decide (a = x); by_cases h : a = x <;> simp [h]
    rw [e2]
    by_cases h : a = x
    · subst h; simp
    · have h' : ¬ x = a := fun z => h z.symm
      simp [h, h']
theorem flat_ints (l : List Int) : (l.map V.int).all flatV = true := by
  induction l with
  | nil => rfl
  | cons a l ih => simp [List.all_cons, flatV, ih]
section
variable {K : PySem.W.Frag} {D : Ends} {σ : L2.St} {H : Hp} {Q : VK} {g : TG} {tt : TT} {te : TE} {a d p : Addr} {xs : List V} {n : Nat} {vs : List Nat} {x : Int} {l : List Int}
theorem go_inI (h : SqL K H p (l.map V.int)) (q : Q (.bl (decide (x ∈ l))) H) : rIn K false (.int x) (.ref p) H Q := ⟨p, _, rfl, Or.inl h, rfl, flat_ints l, by rw [inV_ints]; exact q⟩
theorem go_notInI (h : SqL K H p (l.map V.int)) (q : Q (.bl (!decide (x ∈ l))) H) : rIn K true (.int x) (.ref p) H Q := ⟨p, _, rfl, Or.inl h, rfl, flat_ints l, by rw [inV_ints]; exact q⟩
/-- the target a, b of a pair -/
theorem go_gTup2 {R : L2.St → Hp → Prop} {i j : Nat} {y z : V} (h : SqT K H a [y, z]) (q : R ((σ.set i (some y)).set j (some z)) H) : gTup K 2 (gCons (gName i) (gCons (gName j) gNil)) (.ref a) σ H R :=
  ⟨a, [y, z], rfl, h, rfl, y, [z], rfl, z, [], rfl, rfl, q⟩
/-- [f x for .. in xs], nothing written, any target -/
theorem go_lcG (hS : SqL K H a xs) (f : V → V) (hl : xs.length < sizeLine)
    (he : ∀ x ∈ xs, ∀ (H' : Hp) (R : VK), Keep [] H H' → R (f x) H' → g x (wipe σ vs) H' fun σ2 H2 => wipe σ2 vs = wipe σ vs ∧ te σ2 H2 R)
    (gm : ∀ x σ H (R R' : L2.St → Hp → Prop), g x σ H R → (∀ s h, R s h → R' s h) → g x σ H R')
    (hd : ∀ Dn, H Dn = none → Q (.ref Dn) (upd H Dn (.lst (xs.map f)))) : ∃ a', V.ref a = .ref a' ∧ (∃ xs, SqL K H a' xs) ∧ LcQ (Itl K a') g tYes te vs Q σ H := by
  refine go_lcL hS (fun Dn pre H' => H' = upd H Dn (.lst (pre.map f)) ∧ H Dn = none) (fun Dn hD => ⟨rfl, hD⟩) (fun Dn pre H' ⟨e, hD⟩ => ?_) (fun Dn pre x post H' hD ex ⟨e, _⟩ => ?_) (fun Dn H' hD ⟨e, _⟩ => ?_)
  · rw [e]; exact (Keep.new (S := []) hD).seq (by simp) hS
  · subst e
    have hlt : (pre.map f).length < sizeLine := by
      have : pre.length < xs.length := by rw [ex, List.length_append, List.length_cons]; omega
      rw [List.length_map]; omega
    refine gm _ _ _ _ _ (he x (by rw [ex]; simp) _ (fun y H4 => ∃ acc, H4 Dn = some (.lst acc) ∧ acc.length < sizeLine ∧ upd H4 Dn (.lst (acc ++ [y])) = upd H Dn (.lst ((pre ++ [x]).map f)) ∧ H Dn = none) (Keep.new hD) ?_) ?_
    · refine ⟨_, upd_same, hlt, ?_, hD⟩
      rw [upd_upd, List.map_append]
      rfl
    · intro s h ⟨h1, h2⟩
      refine ⟨h1, ?_⟩
      unfold tYes
      dsimp only
      rw [if_pos rfl]
      exact h2
  · subst e; exact hd Dn hD
/-- [f k for k in d if p k] -/
theorem go_lcK {kvs : List (Key × V)} {j : Nat} (hv : σ[n]? = some (some (.ref d))) (hk : H d = some (.dK kvs)) (f : Key → V) (pr : Key → Bool) (hl : kvs.length < sizeLine) (hw2 : ∀ v, wipe ((wipe σ vs).set j (some v)) vs = wipe σ vs)
    (ht : ∀ k v, (k, v) ∈ kvs → ∀ (od : Obj) (H' : Hp) (R : Bool → Hp → Prop), (∀ a o, H a = some o → a ≠ d → H' a = some o) → H' d = some (.frz od (.dK kvs)) → R (pr k) H' → tt ((wipe σ vs).set j (some (kV k))) H' R)
    (he : ∀ k v, (k, v) ∈ kvs → ∀ (od : Obj) (H' : Hp) (R : VK), (∀ a o, H a = some o → a ≠ d → H' a = some o) → H' d = some (.frz od (.dK kvs)) → R (f k) H' → te ((wipe σ vs).set j (some (kV k))) H' R)
    (hd : ∀ Dn H', H Dn = none → Keep [] H H' → H' Dn = some (.lst ((kvs.filter fun kv => pr kv.1).map fun kv => f kv.1)) → Q (.ref Dn) H') : tLockE (tLc (iKeys (tVar n)) (gName j) tt te vs) σ H Q := by
  refine ⟨d, .dK kvs, hk, trivial, fun od => ⟨.ref d, hv, d, od, rfl, Or.inl ⟨kvs, upd_same, fun Dn hDn => ?_⟩⟩⟩
  have ne : Dn ≠ d := fun e => by rw [e, upd_same] at hDn; cases hDn
  have hD : H Dn = none := by rw [upd_ne ne] at hDn; exact hDn
  have inv : ∀ (l : List V), ∀ a o, H a = some o → a ≠ d → (upd (upd H d (.frz od (.dK kvs))) Dn (.lst l)) a = some o := fun l a o e n => by
    rw [upd_ne (ne_of_none e hD), upd_ne n]; exact e
  have invd : ∀ (l : List V), (upd (upd H d (.frz od (.dK kvs))) Dn (.lst l)) d = some (.frz od (.dK kvs)) := fun l => by
    rw [upd_ne ne.symm, upd_same]
  refine ⟨fun i m H' => m = kvs.length - i ∧ i ≤ kvs.length ∧ H' = upd (upd H d (.frz od (.dK kvs))) Dn (.lst (((kvs.take i).filter fun kv => pr kv.1).map fun kv => f kv.1)), ⟨kvs.length, by simp, Nat.zero_le _, rfl⟩, ?_⟩
  rintro i m H' ⟨rfl, hi, rfl⟩
  by_cases hlt : i < kvs.length
  · refine .inr ⟨⟨invd _, hlt⟩, fun H' => H' = upd (upd H d (.frz od (.dK kvs))) Dn (.lst (((kvs.take (i + 1)).filter fun kv => pr kv.1).map fun kv => f kv.1)), fun H' e => ⟨kvs.length - (i + 1), by omega, rfl, hlt, e⟩, fun x H2 y => ?_⟩
    obtain ⟨e, k, v, ek, ex⟩ := y
    subst e ex
    obtain ⟨h, e⟩ := List.getElem?_eq_some_iff.mp ek
    have mem : (k, v) ∈ kvs := e ▸ List.getElem_mem h
    have e2 : kvs.take (i + 1) = kvs.take i ++ [(k, v)] := by rw [List.take_succ_eq_append_getElem h, e]
    refine ⟨hw2 _, ht k v mem od _ _ (inv _) (invd _) ?_⟩
    rw [e2, List.filter_append, List.map_append]
    cases q : pr k with
    | false =>
      rw [if_neg Bool.false_ne_true]
      simp [q]
    | true =>
      rw [if_pos rfl]
      refine he k v mem od _ _ (inv _) (invd _) ⟨_, upd_same, ?_, ?_⟩
      · rw [List.length_map]
        have h1 := List.length_filter_le (fun kv : Key × V => pr kv.1) (kvs.take i)
        have h2 : (kvs.take i).length ≤ kvs.length := by rw [List.length_take]; omega
        omega
      · rw [upd_upd]; simp [q]
  · have e : i = kvs.length := by omega
    subst e
    refine .inl ⟨⟨invd _, Nat.le_refl _⟩, invd _, ?_⟩
    rw [List.take_length]
    refine hd Dn _ hD (fun a o e _ => ?_) ?_
    · by_cases c : a = d
      · subst c; rw [upd_same]; rw [hk] at e; exact e
      · rw [upd_ne c]; exact inv _ a o e c
    · rw [upd_ne ne, upd_same]
end
/-! ### isinstance -/
theorem kit_int_int : kitB "int" "int" = some true := by decide +kernel
theorem kit_int_bool : kitB "int" "bool" = some false := by decide +kernel
theorem kit_int_str : kitB "int" "str" = some false := by decide +kernel
theorem kit_int_list : kitB "int" "list" = some false := by decide +kernel
theorem kit_int_tuple : kitB "int" "tuple" = some false := by decide +kernel
theorem kit_int_dict : kitB "int" "dict" = some false := by decide +kernel
theorem kit_bool_int : kitB "bool" "int" = some true := by decide +kernel
theorem kit_bool_bool : kitB "bool" "bool" = some true := by decide +kernel
theorem kit_bool_str : kitB "bool" "str" = some false := by decide +kernel
theorem kit_bool_list : kitB "bool" "list" = some false := by decide +kernel
theorem kit_bool_tuple : kitB "bool" "tuple" = some false := by decide +kernel
theorem kit_bool_dict : kitB "bool" "dict" = some false := by decide +kernel
theorem kit_str_int : kitB "str" "int" = some false := by decide +kernel
theorem kit_str_bool : kitB "str" "bool" = some false := by decide +kernel
theorem kit_str_str : kitB "str" "str" = some true := by decide +kernel
theorem kit_str_list : kitB "str" "list" = some false := by decide +kernel
theorem kit_str_tuple : kitB "str" "tuple" = some false := by decide +kernel
theorem kit_str_dict : kitB "str" "dict" = some false := by decide +kernel
theorem kit_NoneType_int : kitB "NoneType" "int" = some false := by decide +kernel
theorem kit_NoneType_bool : kitB "NoneType" "bool" = some false := by decide +kernel
theorem kit_NoneType_str : kitB "NoneType" "str" = some false := by decide +kernel
theorem kit_NoneType_list : kitB "NoneType" "list" = some false := by decide +kernel
theorem kit_NoneType_tuple : kitB "NoneType" "tuple" = some false := by decide +kernel
theorem kit_NoneType_dict : kitB "NoneType" "dict" = some false := by decide +kernel
theorem kit_list_int : kitB "list" "int" = some false := by decide +kernel
theorem kit_list_bool : kitB "list" "bool" = some false := by decide +kernel
theorem kit_list_str : kitB "list" "str" = some false := by decide +kernel
theorem kit_list_list : kitB "list" "list" = some true := by decide +kernel
theorem kit_list_tuple : kitB "list" "tuple" = some false := by decide +kernel
theorem kit_list_dict : kitB "list" "dict" = some false := by decide +kernel
theorem kit_tuple_int : kitB "tuple" "int" = some false := by decide +kernel
theorem kit_tuple_bool : kitB "tuple" "bool" = some false := by decide +kernel
theorem kit_tuple_str : kitB "tuple" "str" = some false := by decide +kernel
theorem kit_tuple_list : kitB "tuple" "list" = some false := by decide +kernel
theorem kit_tuple_tuple : kitB "tuple" "tuple" = some true := by decide +kernel
theorem kit_tuple_dict : kitB "tuple" "dict" = some false := by decide +kernel
theorem kit_dict_int : kitB "dict" "int" = some false := by decide +kernel
theorem kit_dict_bool : kitB "dict" "bool" = some false := by decide +kernel
theorem kit_dict_str : kitB "dict" "str" = some false := by decide +kernel
theorem kit_dict_list : kitB "dict" "list" = some false := by decide +kernel
theorem kit_dict_tuple : kitB "dict" "tuple" = some false := by decide +kernel
theorem kit_dict_dict : kitB "dict" "dict" = some true := by decide +kernel
theorem go_isi {K : PySem.W.Frag} {H : Hp} {x : V} {t n : String} {b : Bool} {Q : VK} (ht : TyX K H x (.type t)) (hk : kitB t n = some b) (q : Q (.bl b) H) : rIsi K [x, .ty n] H Q := ⟨x, .ty n, .type t, .type n, b, rfl, .ty n, ht, kit_ty hk, q⟩
/-! ### one proof of what follows -/
theorem for_rest {J : It} {g : TG} {tb : TS} {D : Ends} {σ : L2.St} {H : Hp} (Mid : L2.St → Hp → Prop) (r : ∀ σ H, Mid σ H → D.nx σ H) (h : (∀ σ H, Mid σ H → D.nx σ H) → ForQ J g tb D σ H) : ForQ J g tb D σ H := h r
theorem seq_rest {t u : TS} {D : Ends} {σ : L2.St} {H : Hp} (Mid : L2.St → Hp → Prop) (r : ∀ σ H, Mid σ H → u D σ H) (h : (∀ σ H, Mid σ H → u D σ H) → t { D with nx := u D } σ H) : tSeq t u D σ H := h r
/-! ### a dict of ints as a set -/
def dB (l : List Int) : List (Key × V) := l.map fun x => (Sum.inl x, V.bl true)
def ins (l : List Int) (x : Int) : List Int := if x ∈ l then l else l ++ [x]
theorem mem_ins {l : List Int} {x y : Int} : y ∈ ins l x ↔ y ∈ l ∨ y = x := by
  unfold ins
  split
  · constructor
    · exact Or.inl
    · rintro (h | rfl)
      · exact h
      · assumption
  · simp
theorem ins_len (l : List Int) (x : Int) : (ins l x).length ≤ l.length + 1 := by unfold ins; split <;> simp
theorem nodup_ins {l : List Int} {x : Int} (h : l.Nodup) : (ins l x).Nodup := by
  unfold ins
  split
  · exact h
  · rename_i n
    rw [List.nodup_append]
    refine ⟨h, by simp, fun a ha b hb e => ?_⟩
    simp only [List.mem_singleton] at hb
    subst hb; subst e; exact n ha
theorem valV_dB (l : List Int) (x : Int) : valV (dB l) (Sum.inl x) = if x ∈ l then some (V.bl true) else none := by
  induction l with
  | nil => rfl
  | cons a l ih =>
    show valV ((Sum.inl a, V.bl true) :: dB l) (Sum.inl x) = _
    by_cases e : a = x
    · rw [valV_pos (by rw [e])]; simp [e]
    · rw [valV_neg (fun z => e (Sum.inl.inj z)), ih]
      have e' : ¬ x = a := fun z => e z.symm
      simp [e']
theorem someB {p : Prop} [Decidable p] {v : V} : (if p then some v else none : Option V).isSome = decide p := by by_cases h : p <;> simp [h]
theorem putK_dB (l : List Int) (x : Int) : putK (dB l) (Sum.inl x) (V.bl true) = dB (ins l x) := by
  have h : ((dB l).any fun kv => decide (kv.1 = Sum.inl x)) = decide (x ∈ l) := by
    unfold dB
    rw [List.any_map]
    induction l with
    | nil => simp
    | cons a l ih =>
      rw [List.any_cons, ih]
      by_cases e : a = x
      · simp [e]
      · have e' : ¬ x = a := fun z => e z.symm
        simp [e, e']
  unfold putK ins
  rw [h]
  by_cases m : x ∈ l
  · simp only [m, decide_true, if_true]
    unfold dB
    rw [List.map_map]
    apply List.map_congr_left
    intro p _
    by_cases e : p = x <;> simp [e]
  · simp only [m, decide_false, Bool.false_eq_true, if_false]
    unfold dB
    rw [List.map_append]; rfl
theorem dB_len (l : List Int) : (dB l).length = l.length := by unfold dB; rw [List.length_map]
theorem go_dget1 {σ : L2.St} {H : Hp} {Q : VK} {td ty : TE} (h : td σ H fun x H1 => ∃ a, x = .ref a ∧ IsD H1 a ∧ ty σ H1 fun y H2 => ∃ o, DGet H2 a y o ∧ Q (o.getD .non) H2) : tDGet1 td ty σ H Q := h
theorem go_dget2 {σ : L2.St} {H : Hp} {Q : VK} {td ty tx : TE} (h : td σ H fun x H1 => ∃ a, x = .ref a ∧ IsD H1 a ∧ ty σ H1 fun y H2 => tx σ H2 fun z H3 => ∃ o, DGet H3 a y o ∧ Q (o.getD z) H3) : tDGet2 td ty tx σ H Q := h
theorem isDK {H : Hp} {a : Addr} {kvs : List (Key × V)} (h : Rd H a (.dK kvs)) : IsD H a := Or.inl ⟨kvs, h⟩
end Rf
namespace Rf
open PySem PySem.Spec PyProof.Rows L2
/-! ### a def whose code object is known -/
theorem okC {P : Program} {w : World} {K : PySem.W.Frag} {mg : Str → Option Value} {base : Heap} {nm qual : Str} {st : Stmt} {f : Addr} {fd : FuncData} {N ps : List Str} {k : Nat} {sp : Sp}
    (F : Fun K nm qual st f fd) (S : FnScope N ps (defScope st)) (hl : ∀ vs H Q E, sp vs H Q E → vs.length = ps.length)
    (hb : ∀ (cdv : Value) (A : Around) (outer : List Env) (s : Shared) (H : Hp) (vs : List V) (Q : VK) (E : XK), PySem.W.kdsCode K cdv = true → Room k (A.deeper (envOfC qual (defScope st) s.heap.objs.size f cdv)) → sp vs H Q E →
      ∃ t, PSs (cxOf CX0 P w K mg base N qual (defScope st) f cdv A outer s H E).nox (defBody st) t ∧
        t { nx := fun _ H' => Q .non H', rt := Q } (start N vs) H) :
    FnOk P w K mg base CX0 (k + 1) f fd ps sp := by
  obtain ⟨_, _, _, _, _, _, cd, _, _, e, lk, hc⟩ := F.ex
  subst e
  refine fn_of lk hc S hl fun A outer s H vs Q E hr h => ?_
  obtain ⟨t, z, q⟩ := hb cd A outer s H vs Q E (kdsCode_of hc) hr h
  exact ⟨t, z.nox, q⟩
/-! ### sets of ints made at once -/
section
variable {X : Cx}
theorem setI_add {A : Around} {E : Value → Shared → Prop} {pins : List (Addr × Obj)} {σ : L2.St} {H : Hp} {s : Shared} {D : Addr} {S : Int → Bool} {n : Nat} {y : Int} {t : Tok} {Q : Bool → Shared → Prop} (I : Inv X pins σ H s)
    (hD : H D = some (SetO X.w D S n)) (room : n + 1 < scanBound)
    (h : ∀ b s', Inv X pins σ (upd H D (SetO X.w D (fun j => S j || decide (j = y)) (if S y = true then n else n + 1))) s' → Q b s') :
    wpAny (model X.prog X.w) A (setAdd D (.int y t)) Q E s := by
  unfold setAdd
  refine wpAny_holding (wpAny_bind ((intKind X.prog X.w).pyHash (k := y) (intKind_is _ _ _ _) ?_))
  have R : SetR X.w s.heap D S n := setO_get I hD
  refine setR_add_hashed (s := { s with toks := s.toks + 1 }) R room fun h' sb new => ?_
  refine h _ _ (I.write (e := D) (t' := s.toks + 1) (by rw [hD]; trivial) (.inl rfl) (fun b u hb hu => (sb.2 b hb).trans hu) ?_ (setO_new new))
  have ⟨o, _, _, _, ho, _⟩ := new
  exact ⟨o, ho⟩
/-- {a, b} of two ints -/
def tSetI2 (w : World) (ta tb : TE) : TE := fun σ H Q => ∀ p, H p = none → ta σ (upd H p (SetO w p (fun _ => false) 0)) fun x H1 => tb σ H1 fun y H2 =>
  H2 p = some (SetO w p (fun _ => false) 0) ∧ ∃ i j : Int, x = .int i ∧ y = .int j ∧ ∀ (S : Int → Bool) (n : Nat), n ≤ 2 → (∀ k, S k = true ↔ k = i ∨ k = j) → Q (.ref p) (upd H2 p (SetO w p S n))
theorem pe_setI2 {a b : Expr} {ta tb : TE} {pos : Pos} (ha : PE X a ta) (hb : PE X b tb) (hcd : PySem.W.kdsCode X.K X.env.code = true)
    (hs : starEach [a, b] X.env = [(false, eval a X.env), (false, eval b X.env)] := by rfl) : PE X (.Set [a, b] 0 pos) (tSetI2 X.w ta tb) := by
  refine ⟨fun pins s σ H Q I h => ?_⟩
  rw [arm_eval_Set, hs]
  refine wpAny_bind (wpAny_standAt ?_)
  refine wpAny_bind (PySem.W.kds_main I.kIn hcd fun c => ?_)
  have hr : displayRoad 0 [a, b] = .oneByOne := rfl
  rw [hr]
  unfold setDisplay
  rw [if_neg (by decide)]
  refine wpAny_bind (PpSet.newSet_ok ?_)
  dsimp only
  refine wpAny_bind (wpAny_holding ?_)
  have hn := I.hok.fresh (Nat.le_refl s.heap.objs.size)
  have I1 := I.laid (a := s.heap.objs.size) (o := SetO X.w s.heap.objs.size (fun _ => false) 0) (h' := s.heap.push { cls := .type "set", dict := none, data := .set #[] 0 (.fresh 0 0 (!X.w.params.followText "set-order")) }) (t' := s.toks)
    (fun _ _ e => Heap.get?_push_of_some _ e) (Nat.le_refl _) (setO_new (setR_fresh X.w))
  have q := h _ hn
  have e2 : ∀ (x y : Sem Value), (if [(false, x), (false, y)].length > 30 then 0 else (([(false, x), (false, y)] : List (Bool × Sem Value)).findIdx? (·.1)).getD [(false, x), (false, y)].length) = 2 := fun _ _ => rfl
  simp only [List.map_cons, List.map_nil]
  rw [e2]
  simp only [List.take_succ_cons, List.take_zero, List.drop_succ_cons, List.drop_zero, List.map_cons, List.map_nil, evalAll]
  refine wpAny_bind (wpAny_bind (wpAny_bind (thn (ha.run pins _ σ _ _ I1 q) fun v s2 ⟨x, H1, I2, r1, q1⟩ => wpAny_bind (wpAny_standAt (wpAny_pure ?_)))))
  refine wpAny_bind (wpAny_holding (wpAny_bind (wpAny_bind (thn (hb.run pins _ σ _ _ I2 q1) fun u s3 ⟨y, H2, I3, r2, eD, i, j, ex, ey, q2⟩ => wpAny_bind (wpAny_standAt (wpAny_pure ?_))))))
  refine wpAny_bind (wpAny_holding (wpAny_pure ?_))
  refine wpAny_pure (wpAny_pure ?_)
  subst ex ey
  obtain ⟨t1, e1⟩ := r1
  obtain ⟨t2, e2⟩ := r2
  subst e1 e2
  refine wpAny_bind (wpAny_holding ?_)
  refine wpAny_bind ?_
  rw [List.forIn_cons]
  refine wpAny_bind (wpAny_bind (setI_add I3 eD (by decide) fun _ s4 I4 => wpAny_pure ?_))
  dsimp only
  rw [List.forIn_cons]
  refine wpAny_bind (wpAny_bind (setI_add I4 upd_same (by simp [scanBound]) fun _ s5 I5 => wpAny_pure ?_))
  dsimp only
  rw [List.forIn_nil]
  refine wpAny_pure ?_
  rw [if_neg (by decide)]
  refine wpAny_pure ?_
  rw [List.forIn_nil]
  refine wpAny_pure (wpAny_pure ?_)
  refine ⟨.ref s.heap.objs.size, _, I5, rfl, ?_⟩
  rw [upd_upd]
  refine q2 _ _ ?_ (fun k => ?_)
  · split <;> simp
  · simp
end
/-! ### dicts of the module -/
def WDict (K : PySem.W.Frag) (w : World) (d : Addr) : Prop := ∃ es n, KDict K w d es n
/-- what stands at a key -/
def WAt (K : PySem.W.Frag) (d : Addr) (z : Str) (o : Option V) : Prop := ∃ r, PySem.W.nsIn K d z = some r ∧ (o = none → r = none) ∧ ∀ v, o = some v → ∃ u, r = some u ∧ RelV v u
def rInW (K : PySem.W.Frag) (w : World) : R2 := fun x y H Q => ∃ (d : Addr) (z : Str) (o : Option V), x = .str z ∧ y = .ref d ∧ WDict K w d ∧ WAt K d z o ∧ Q (.bl o.isSome) H
def rNinW (K : PySem.W.Frag) (w : World) : R2 := fun x y H Q => ∃ (d : Addr) (z : Str) (o : Option V), x = .str z ∧ y = .ref d ∧ WDict K w d ∧ WAt K d z o ∧ Q (.bl (!o.isSome)) H
def rIxW (K : PySem.W.Frag) (w : World) : R2 := fun x y H Q => ∃ (d : Addr) (z : Str) (v : V), x = .ref d ∧ y = .str z ∧ WDict K w d ∧ WAt K d z (some v) ∧ Q v H
def tGetW (K : PySem.W.Frag) (w : World) (td ty : TE) : TE := fun σ H Q => td σ H fun x H1 => ∃ d, x = .ref d ∧ WDict K w d ∧ ty σ H1 fun y H2 => ∃ (z : Str) (o : Option V), y = .str z ∧ WAt K d z o ∧ Q (o.getD .non) H2
section
variable {X : Cx}
theorem WAt.sm {K : PySem.W.Frag} {d : Addr} {z : Str} {o : Option V} {r : Option Value} (h1 : o = none → r = none) (h2 : ∀ v, o = some v → ∃ u, r = some u ∧ RelV v u) : r.isSome = o.isSome := by
  cases o with
  | none => rw [h1 rfl]; rfl
  | some v =>
    obtain ⟨u, e, _⟩ := h2 v rfl
    rw [e]; rfl
theorem op_inW : OpR X (compareOp .In) (rInW X.K X.w) := by
  intro pins s σ H x y v u Q I rx ry h
  obtain ⟨d, z, o, ex, ey, ⟨es, n, D⟩, ⟨r, e, h1, h2⟩, q⟩ := h
  exact op_in_kd D pins s σ H x y v u Q I rx ry ⟨z, r, ex, ey, e, by rw [WAt.sm (K := X.K) (d := d) (z := z) h1 h2]; exact q⟩
theorem op_ninW : OpR X (compareOp .NotIn) (rNinW X.K X.w) := by
  intro pins s σ H x y v u Q I rx ry h
  obtain ⟨d, z, o, ex, ey, ⟨es, n, D⟩, ⟨r, e, h1, h2⟩, q⟩ := h
  exact op_notIn_kd D pins s σ H x y v u Q I rx ry ⟨z, r, ex, ey, e, by rw [WAt.sm (K := X.K) (d := d) (z := z) h1 h2]; exact q⟩
theorem ix_W : IxR X (rIxW X.K X.w) := by
  intro value slice pins s σ H x y v u Q I rx ry h hs
  obtain ⟨d, z, v0, ex, ey, ⟨es, n, D⟩, ⟨r, e, _, h2⟩, q⟩ := h
  obtain ⟨u0, er, ru⟩ := h2 v0 rfl
  subst er
  exact ix_kdict value slice pins s σ H x y v u Q I rx ry ⟨d, z, v0, ex, ey, ⟨es, n, u0, D.at_, D.lit, e, ru⟩, q⟩ hs
theorem pe_getW {o e : Expr} {apos cpos : Pos} {td ty : TE} (ho : PE X o td) (he : PE X e ty) (m : M1 X o "get" apos e cpos) : PE X (.Call (.Attribute o "get" apos) [e] [] cpos) (tGetW X.K X.w td ty) := by
  constructor
  intro pins s σ H Q I h
  refine wpAny_Call_method m.base m.few m.line PySem.F.plainAttrs_dict PySem.F.slot_dict_get PySem.F.type_dict_get (thn (ho.run pins s σ H _ I h) fun u s1 z => ?_)
  obtain ⟨x, H1, I1, rx, d, ex, ⟨es, n, D⟩, q1⟩ := z
  subst ex
  obtain rfl : u = Value.ref d := rx
  have hm := PySem.W.mapOf_K (prog := X.prog) (w := X.w) I1.kIn D.at_ D.lit
  refine ⟨hm.typeIs, fun b z => ?_, ?_⟩
  · cases z
    exact ⟨_, I1.kIn _ _ D.at_, rfl⟩
  rw [m.trees]
  refine wpAny_dict_get1 (knd := strKind X.prog X.w) D.low (thn (he.run pins s1 σ H1 _ I1 q1) fun iv s2 z => ?_)
  obtain ⟨y, H2, I2, ry, zz, o, ey, ⟨r, e, h1, h2⟩, q2⟩ := z
  subst ey
  obtain ⟨t, rfl⟩ := ry
  refine ⟨zz, _, strKind_is X.prog X.w zz t, PySem.W.mapOf_K (prog := X.prog) (w := X.w) I2.kIn D.at_ D.lit, ?_⟩
  rw [PySem.W.find_K D.at_ e]
  refine ⟨_, H2, I2.tok _, ?_, q2⟩
  cases o with
  | none => rw [h1 rfl]; rfl
  | some v =>
    obtain ⟨u, eu, ru⟩ := h2 v rfl
    rw [eu]; exact ru
end
end Rf
namespace Rf
open PySem PySem.Spec PyProof.Rows L2
theorem ext_tup (l : Addr) (us : Array Value) (n : Nat) (b : Addr) (ws : Array Value) (m : Nat) (dd : Option Addr) (sl : Array (Option Value)) (h0 : ¬(!us.isEmpty && Builtin.List.listTooLong (us.size + ws.size)) = true)
    (h1 : us.size ≤ sizeLine) (h2 : us.size + ws.size ≤ sizeLine + 1) :
    Meets (Builtin.«list.extend» ⟨[.ref l, .ref b], []⟩) (fun _ R s => s.heap.get? l = some { cls := .type "list", dict := none, data := .seq us n, slots := #[] } ∧
      s.heap.get? b = some { cls := .type "tuple", dict := dd, data := .seq ws m, slots := sl } ∧
      R (.ok (.ret Value.none)) { s with heap := s.heap.update l (Obj.mapSeq fun x => x ++ ws), toks := s.toks }) := by
  refine .of_wp fun prog w A R s h => ?_
  obtain ⟨hp, g, d, tk, os⟩ := s
  obtain ⟨hl, hb, h⟩ := h
  have f1 := AutoSeq1.idx_int
  have f2 := AutoSeq1.sub_tuple_tuple
  have f3 := AutoSeq1.sub_list_list
  have f4 := AutoSeq1.sub_tuple_list
  have f5 := AutoSeq1.sub_list_tuple
  have hz' : (us ++ ws).size ≤ sizeLine + 1 := by rw [Array.size_append]; exact h2
  wp_walk using (wpAny_updateSeq hl rfl (hz := h1) (_hz' := hz')), AutoSeq1.wpAny_loadPart' hl, AutoSeq1.wpAny_loadPart' hb
  exact ⟨_, rfl, h⟩
def rExtT (K : PySem.W.Frag) : V → List V → Hp → VK → Prop := fun x vs H Q => ∃ l b xs zs, x = .ref l ∧ vs = [.ref b] ∧ H l = some (.lst xs) ∧ SqT K H b zs ∧ xs.length + zs.length ≤ sizeLine ∧ Q .non (upd H l (.lst (xs ++ zs)))
section
variable {X : Cx}
theorem mt_extT : MtM X "list.extend" (rExtT X.K) := by
  intro pins s σ H x vs v us Q I rx rv h
  obtain ⟨l, b, xs, zs, ex, ev, hH, hB, hz, q⟩ := h
  subst ex ev
  cases rx
  obtain ⟨u, eu, ru⟩ := rv.one
  subst eu
  cases ru
  obtain ⟨z, its, n, r, hl, e⟩ := I.lstM hH
  obtain ⟨its2, r2, hT, hz2⟩ := I.tuple hB
  obtain ⟨⟨cl, dd, dat, sl⟩, e2, c2, n2, d2⟩ := hT
  dsimp only at c2 d2
  subst c2 d2
  have hl2 := r2.length
  have hsz : its.toArray.size + its2.toArray.size ≤ sizeLine := by simp only [List.size_toArray]; omega
  have hlong : ¬ (!its.toArray.isEmpty && Builtin.List.listTooLong (its.toArray.size + its2.toArray.size)) = true := by
    rw [notLongL hsz]; simp
  refine call_meets F.slot_list_extend ⟨_, e, rfl⟩ F.entry_list_extend (F.args_list_extend_2 _ _)
    (ext_tup l its.toArray n b its2.toArray n2 dd sl hlong (by simp only [List.size_toArray]; omega) (by omega)) ⟨e, e2, ?_⟩
  refine ⟨.non, _, I.lset (its' := its ++ its2) hH e (by simp) (r.append r2) (by rw [List.length_append]; omega), rfl, q⟩
/-- a text n times over -/
def repS (x : Str) (n : Nat) : Str := ⟨(List.replicate n x.cps).foldl (· ++ ·) #[]⟩
def rMulS : R2 := fun x y H Q => ∃ (a : Str) (k : Int), x = .str a ∧ y = .int k ∧ 2 ≤ k ∧ k ≤ 1000 ∧ 1 ≤ a.length ∧ a.length ≤ 1000 ∧ Q (.str (repS a k.toNat)) H
theorem op_mulS : OpR X (binaryOp .Mult) rMulS := by
  intro pins s σ H x y v u Q I rx ry h
  obtain ⟨a, k, ex, ey, h1, h2, h3, h4, q⟩ := h
  subst ex ey
  obtain ⟨t, rfl⟩ := rx
  obtain ⟨t', rfl⟩ := ry
  refine P.mul_str ?_ (fun _ _ => ?_) (fun _ _ => ?_) ?_
  · rw [decide_eq_false (by omega), decide_eq_false (by omega)]; rfl
  · have : (2 ^ 63 - 1) / k ≥ 1000 := by
      have h0 : (0 : Int) < k := by omega
      rw [ge_iff_le, Int.le_ediv_iff_mul_le h0]; omega
    omega
  · have : a.length * k.toNat ≤ 1000 * 1000 := Nat.mul_le_mul h4 (by omega)
    unfold Builtin.Str.tooLong; exact decide_eq_false (by unfold sizeLine; omega)
  · rw [if_neg (by omega)]
    have e1 : (k == 1 || a.length == 0) = false := by
      rw [Bool.or_eq_false_iff]; exact ⟨by simp; omega, by simp; omega⟩
    rw [if_neg (by rw [e1]; exact Bool.false_ne_true)]
    refine ⟨?_, .str _, H, I.tok _, ⟨_, rfl⟩, q⟩
    have e2 : ∀ (c : Array Nat) (m : Nat) (acc : Array Nat), ((List.replicate m c).foldl (· ++ ·) acc).size = acc.size + m * c.size := by
      intro c m
      induction m with
      | zero => intro acc; simp
      | succ m ih => intro acc; rw [List.replicate_succ, List.foldl_cons, ih, Array.size_append, Nat.succ_mul]; omega
    show ((List.replicate k.toNat a.cps).foldl (· ++ ·) #[]).size ≤ sizeLine
    rw [e2]
    have : k.toNat * a.cps.size ≤ 1000 * 1000 := Nat.mul_le_mul (by omega) h4
    simp only [Array.size_empty, sizeLine]; omega
end
/-! ### names of readings -/
abbrev rOrI : R2 := rI0 fun i j => .int (Builtin.bitOr i j)
abbrev rAndI : R2 := rI0 fun i j => .int (Builtin.bitAnd i j)
abbrev rShlI : R2 := rI CPow fun i j => .int (i * 2 ^ j.toNat)
abbrev rShrI : R2 := rI (fun _ j => 0 ≤ j) fun i j => .int (i / 2 ^ j.toNat)
def rTupOf (K : PySem.W.Frag) : List V → Hp → VK → Prop := fun xs H Q => ∃ p ys, xs = [.ref p] ∧ ((SqL K H p ys ∧ ∀ l, H l = none → Q (.ref l) (upd H l (.tup ys))) ∨ (SqT K H p ys ∧ Q (.ref p) H))
def rIxQ (K : PySem.W.Frag) : R2 := fun x y H Q => rIxL K x y H Q ∨ rIxT K x y H Q
theorem wat_none {K : PySem.W.Frag} {d : Addr} {z : Str} (e : PySem.W.nsIn K d z = some none) : WAt K d z none := ⟨none, e, fun _ => rfl, fun v h => by cases h⟩
theorem wat_int {K : PySem.W.Frag} {d : Addr} {z : Str} {i : Int} {t : Tok} (e : PySem.W.nsIn K d z = some (some (.int i t))) : WAt K d z (some (.int i)) :=
  ⟨_, e, (fun h => by cases h), fun v h => by cases h; exact ⟨_, rfl, t, rfl⟩⟩
theorem wat_ref {K : PySem.W.Frag} {d a : Addr} {z : Str} (e : PySem.W.nsIn K d z = some (some (.ref a))) : WAt K d z (some (.ref a)) :=
  ⟨_, e, (fun h => by cases h), fun v h => by cases h; exact ⟨_, rfl, rfl⟩⟩
theorem sqt_of {K : PySem.W.Frag} {t : Addr} {od : Option Addr} {its : Array Value} {n : Nat} {sl : Array (Option Value)} {xs : List V} (e : K.lookup t = some ⟨.type "tuple", od, .seq its n, sl⟩) (h : its.size ≤ sizeLine) (v : Vals xs its.toList) : ∀ H, SqT K H t xs :=
  fun _ => Or.inr ⟨_, its, n, e, rfl, rfl, h, v⟩
end Rf
namespace Rf
open PySem PySem.Spec PyProof.Rows L2
/-! ### lists of references -/
theorem refs_split {α : Type} {F : Addr → α → Prop} {as : List Addr} {ms : List α} (h : Paired F as ms) {pre post : List V} {x : V} (e : as.map V.ref = pre ++ x :: post) :
    ∃ a m, x = .ref a ∧ F a m ∧ m ∈ ms ∧ a ∈ as ∧ ms[pre.length]? = some m ∧ ms.take (pre ++ [x]).length = ms.take pre.length ++ [m] ∧ pre.length < ms.length := by
  have hi : pre.length < as.length := by
    have := congrArg List.length e
    rw [List.length_map, List.length_append, List.length_cons] at this
    omega
  have ha : as[pre.length]? = some as[pre.length] := List.getElem?_eq_getElem hi
  obtain ⟨m, hm, hF⟩ := Rf.Paired.get h ha
  have ex : (as.map V.ref)[pre.length]? = some x := by rw [e]; simp
  rw [List.getElem?_map, ha] at ex
  have ex : V.ref as[pre.length] = x := Option.some.inj ex
  obtain ⟨hl, hm'⟩ := List.getElem?_eq_some_iff.mp hm
  refine ⟨as[pre.length], m, ex.symm, hF, List.mem_of_getElem? hm, List.getElem_mem hi, hm, ?_, hl⟩
  rw [List.length_append, List.length_singleton, List.take_succ_eq_append_getElem hl, hm']
theorem go_refs {K : PySem.W.Frag} {D : Ends} {σ : L2.St} {H : Hp} {g : TG} {tb : TS} {a : Addr} {α : Type} {F : Addr → α → Prop} {as : List Addr} {ms : List α} (hp : Paired F as ms) (hS : SqL K H a (as.map V.ref)) (Pv : List α → L2.St → Hp → Prop) (h0 : Pv [] σ H) (hl : ∀ pre σ' H', Pv pre σ' H' → SqL K H' a (as.map V.ref))
    (hs : ∀ pre m b σ' H', m ∈ ms → F b m → pre.length < ms.length → Pv pre σ' H' → g (.ref b) σ' H' fun σ2 H2 => tb { D with nx := Pv (pre ++ [m]), ct := Pv (pre ++ [m]), bk := D.nx } σ2 H2)
    (hd : ∀ σ' H', Pv ms σ' H' → D.nx σ' H') : ∃ a', V.ref a = .ref a' ∧ (∃ xs, SqL K H a' xs) ∧ ForQ (Itl K a') g tb D σ H := by
  refine go_forL hS (fun pre σ' H' => Pv (ms.take pre.length) σ' H') h0 (fun pre σ' H' p => hl _ _ _ p) (fun pre x post σ' H' e p => ?_) (fun σ' H' p => hd σ' H' ?_)
  · obtain ⟨b, m, rfl, hF, hm, hb, h1, h2, h3⟩ := refs_split hp e
    have := hs (ms.take pre.length) m b σ' H' hm hF (by rw [List.length_take]; omega) p
    rw [h2]
    exact this
  · rw [List.length_map, Paired.length hp, List.take_length] at p
    exact p
theorem gm_name {j : Nat} : ∀ x σ H (R R' : L2.St → Hp → Prop), gName j x σ H R → (∀ s h, R s h → R' s h) → gName j x σ H R' := fun _ _ _ _ _ h k => k _ _ h
theorem gm_tup2 {K : PySem.W.Frag} {i j : Nat} : ∀ x σ H (R R' : L2.St → Hp → Prop), gTup K 2 (gCons (gName i) (gCons (gName j) gNil)) x σ H R → (∀ s h, R s h → R' s h) → gTup K 2 (gCons (gName i) (gCons (gName j) gNil)) x σ H R' := by
  rintro x σ H R R' ⟨a, xs, rfl, h1, h2, v, r, rfl, v2, r2, rfl, h3, h4⟩ k
  exact ⟨a, _, rfl, h1, h2, v, _, rfl, v2, _, rfl, h3, k _ _ h4⟩
theorem go_lcRefs {K : PySem.W.Frag} {σ : L2.St} {H : Hp} {Q : VK} {g : TG} {te : TE} {vs : List Nat} {a : Addr} {α : Type} {F : Addr → α → Prop} {as : List Addr} {ms : List α} (hp : Paired F as ms) (hS : SqL K H a (as.map V.ref)) (f : α → V) (hl : ms.length < sizeLine)
    (he : ∀ b m, m ∈ ms → F b m → ∀ (H' : Hp) (R : VK), Keep [] H H' → R (f m) H' → g (.ref b) (wipe σ vs) H' fun σ2 H2 => wipe σ2 vs = wipe σ vs ∧ te σ2 H2 R)
    (gm : ∀ x σ H (R R' : L2.St → Hp → Prop), g x σ H R → (∀ s h, R s h → R' s h) → g x σ H R')
    (hd : ∀ Dn, H Dn = none → Q (.ref Dn) (upd H Dn (.lst (ms.map f)))) : ∃ a', V.ref a = .ref a' ∧ (∃ xs, SqL K H a' xs) ∧ LcQ (Itl K a') g tYes te vs Q σ H := by
  refine go_lcL hS (fun Dn pre H' => H' = upd H Dn (.lst ((ms.take pre.length).map f)) ∧ H Dn = none) (fun Dn hD => ⟨rfl, hD⟩) (fun Dn pre H' ⟨e, hD⟩ => ?_) (fun Dn pre x post H' hD ex ⟨e, _⟩ => ?_) (fun Dn H' hD ⟨e, _⟩ => ?_)
  · rw [e]; exact (Keep.new (S := []) hD).seq (by simp) hS
  · subst e
    obtain ⟨b, m, rfl, hF, hm, hb, h1, h2, h3⟩ := refs_split hp ex
    refine gm _ _ _ _ _ (he b m hm hF _ (fun y H4 => ∃ acc, H4 Dn = some (.lst acc) ∧ acc.length < sizeLine ∧ upd H4 Dn (.lst (acc ++ [y])) = upd H Dn (.lst ((ms.take (pre ++ [V.ref b]).length).map f)) ∧ H Dn = none) (Keep.new hD) ?_) ?_
    · refine ⟨_, upd_same, ?_, ?_, hD⟩
      · rw [List.length_map, List.length_take]; omega
      · rw [upd_upd, h2, List.map_append]; rfl
    · intro s h ⟨h1, h2⟩
      refine ⟨h1, ?_⟩
      unfold tYes
      dsimp only
      rw [if_pos rfl]
      exact h2
  · subst e
    rw [List.length_map, Paired.length hp, List.take_length]
    exact hd Dn hD

/-! ### comprehensions that only look -/
section
variable {K : PySem.W.Frag} {σ : L2.St} {H : Hp} {Q : VK} {tt : TT} {te : TE} {vs : List Nat} {a : Addr} {xs : List V} {j n : Nat} {lo : Int}
/-- [f i for i in range if pr i]; new objects may come on the way -/
theorem go_lcRF (f : Nat → V) (pr : Nat → Bool) (hl : n < sizeLine) (hw2 : ∀ v, wipe ((wipe σ vs).set j (some v)) vs = wipe σ vs)
    (ht : ∀ i, i < n → ∀ (H' : Hp) (R : Bool → Hp → Prop), Keep [] H H' → (∀ H2, Keep [] H' H2 → R (pr i) H2) → tt ((wipe σ vs).set j (some (.int (lo + (i : Nat))))) H' R)
    (he : ∀ i, i < n → pr i = true → ∀ (H' : Hp) (R : VK), Keep [] H H' → (∀ H2, Keep [] H' H2 → R (f i) H2) → te ((wipe σ vs).set j (some (.int (lo + (i : Nat))))) H' R)
    (hd : ∀ Dn H', H Dn = none → Keep [] H H' → H' Dn = some (.lst (((List.range n).filter pr).map f)) → Q (.ref Dn) H') : LcQ (Itr lo n) (gName j) tt te vs Q σ H := by
  refine go_lcR (fun Dn i H' => Keep [] H H' ∧ H' Dn = some (.lst (((List.range i).filter pr).map f))) (fun Dn hD => ⟨Keep.new hD, upd_same⟩) (fun Dn i H' hD hi p => ?_) (fun Dn H' hD p => hd Dn H' hD p.1 p.2)
  obtain ⟨k, hn⟩ := p
  refine ⟨hw2 _, ht i hi H' _ k fun H2 k2 => ?_⟩
  cases e : pr i with
  | false =>
    rw [if_neg Bool.false_ne_true]
    refine ⟨k.trans k2, ?_⟩
    rw [List.range_succ, List.filter_append]
    simp [e]
    exact k2 _ _ hn (by simp)
  | true =>
    rw [if_pos rfl]
    refine he i hi e H2 _ (k.trans k2) fun H3 k3 => ⟨_, k3 _ _ (k2 _ _ hn (by simp)) (by simp), ?_, ?_, ?_⟩
    · rw [List.length_map]
      have := List.length_filter_le pr (List.range i)
      rw [List.length_range] at this; omega
    · exact ((k.trans k2).trans k3).fresh hD
    · rw [upd_same, List.range_succ, List.filter_append]
      simp [e]
/-- [f x for x in xs if pr x] -/
theorem go_lcLF (hS : SqL K H a xs) (f : V → V) (pr : V → Bool) (hl : xs.length < sizeLine) (hw2 : ∀ v, wipe ((wipe σ vs).set j (some v)) vs = wipe σ vs)
    (ht : ∀ x ∈ xs, ∀ (H' : Hp) (R : Bool → Hp → Prop), Keep [] H H' → (∀ H2, Keep [] H' H2 → R (pr x) H2) → tt ((wipe σ vs).set j (some x)) H' R)
    (he : ∀ x ∈ xs, pr x = true → ∀ (H' : Hp) (R : VK), Keep [] H H' → (∀ H2, Keep [] H' H2 → R (f x) H2) → te ((wipe σ vs).set j (some x)) H' R)
    (hd : ∀ Dn H', H Dn = none → Keep [] H H' → H' Dn = some (.lst ((xs.filter pr).map f)) → Q (.ref Dn) H') : ∃ a', V.ref a = .ref a' ∧ (∃ xs, SqL K H a' xs) ∧ LcQ (Itl K a') (gName j) tt te vs Q σ H := by
  refine go_lcL hS (fun Dn pre H' => Keep [] H H' ∧ H' Dn = some (.lst ((pre.filter pr).map f))) (fun Dn hD => ⟨Keep.new hD, upd_same⟩) (fun Dn pre H' p => p.1.seq (by simp) hS) (fun Dn pre x post H' hD ex p => ?_) (fun Dn H' hD p => hd Dn H' hD p.1 p.2)
  obtain ⟨k, hn⟩ := p
  have hx : x ∈ xs := by rw [ex]; simp
  refine ⟨hw2 _, ht x hx H' _ k fun H2 k2 => ?_⟩
  cases e : pr x with
  | false =>
    rw [if_neg Bool.false_ne_true]
    refine ⟨k.trans k2, ?_⟩
    rw [List.filter_append]
    simp [e]
    exact k2 _ _ hn (by simp)
  | true =>
    rw [if_pos rfl]
    refine he x hx e H2 _ (k.trans k2) fun H3 k3 => ⟨_, k3 _ _ (k2 _ _ hn (by simp)) (by simp), ?_, ?_, ?_⟩
    · rw [List.length_map]
      have h1 := List.length_filter_le pr pre
      have h2 : pre.length < xs.length := by rw [ex, List.length_append, List.length_cons]; omega
      omega
    · exact ((k.trans k2).trans k3).fresh hD
    · rw [upd_same, List.filter_append]
      simp [e]
theorem go_yes {R : Bool → Hp → Prop} (h : R true H) : tYes σ H R := h
end
/-! ### the lesser words -/
section
variable {K : PySem.W.Frag} {w : World} {D : Ends} {σ : L2.St} {H : Hp} {Q : VK} {QT : Bool → Hp → Prop} {x y z v : V} {ta tb tc te to : TE} {tA : TA} {i j k : Int} {a b p C dx d : Addr} {xs ys : List V} {s s' : Str} {f : Str} {fs : List (Str × V)} {ws : List Str} {sp : Sp} {E : XK} {dvs : List V}
theorem go_m1 {r : V → List V → Hp → VK → Prop} (h : ta σ H fun x H1 => (∃ z : Str, x = .str z) ∧ tb σ H1 fun y H2 => r x [y] H2 Q) : tM1 r ta tb σ H Q := h
theorem go_isS {P : Prop} (q : P) : (∃ z : Str, V.str s = .str z) ∧ P := ⟨⟨s, rfl⟩, q⟩
theorem go_chain {r r' : R2} (h : ta σ H fun x H1 => tb σ H1 fun y H2 => r x y H2 fun z H3 => ∃ k, z = .bl k ∧ (if k = true then tc σ H3 fun w' H4 => r' y w' H4 Q else Q (.bl false) H3)) : tChain r r' ta tb tc σ H Q := h
theorem go_join {ts : List Str} (h : SqL K H p (ts.map V.str)) (hz : (ts.map (·.length)).sum + ts.length * s.length ≤ 16777216) (q : Q (.str (Txt.join s ts)) H) : rJoin K (.str s) [.ref p] H Q := ⟨s, p, ts, rfl, rfl, Or.inl h, hz, q⟩
theorem go_ixS {c : Nat} (hl : s.length ≤ sizeLine) (ha : atI s.cps.toList i = some c) (q : Q (.str ⟨#[c]⟩) H) : rIxS (.str s) (.int i) H Q := ⟨s, i, c, rfl, rfl, hl, ha, q⟩
theorem go_pop0 (h : H p = some (.lst (v :: xs))) (q : Q v (upd H p (.lst xs))) : rPopAt (.ref p) [.int 0] H Q :=
  ⟨p, v :: xs, 0, 0, v, rfl, rfl, h, by decide, by decide, by unfold seqIndex?; simp, rfl, q⟩
theorem go_ins0 (h : H p = some (.lst xs)) (hl : xs.length < sizeLine) (q : Q .non (upd H p (.lst (v :: xs)))) : rInsert (.ref p) [.int 0, v] H Q :=
  ⟨p, xs, 0, v, rfl, rfl, h, hl, by decide, by decide, by simpa using q⟩
theorem go_cat (h : H a = some (.lst xs)) (h' : H b = some (.lst ys)) (hl : xs.length + ys.length ≤ sizeLine) (q : ∀ p, H p = none → Q (.ref p) (upd H p (.lst (xs ++ ys)))) : rCat (.ref a) (.ref b) H Q := ⟨a, b, xs, ys, rfl, rfl, h, h', hl, q⟩
theorem go_truL (h : SqL K H p xs) (q : QT (!xs.isEmpty) H) : ∃ k, TruV K (.ref p) H k ∧ QT k H := ⟨_, Or.inl ⟨xs, h, rfl⟩, q⟩
theorem go_truT (h : SqT K H p xs) (q : QT (!xs.isEmpty) H) : ∃ k, TruV K (.ref p) H k ∧ QT k H := ⟨_, Or.inr (Or.inl ⟨xs, h, rfl⟩), q⟩
theorem go_tfld (h : ta σ H fun x H1 => ∃ a C dx fs v, x = .ref a ∧ H1 a = some (.ins C dx fs) ∧ Cls K C ∧ NoAttr K C f ∧ fs.lookup f = some v ∧ Q v H1) : tFld K ta f σ H Q := h
theorem go_fldE (h : H a = some (.ins C dx fs)) (c : Cls K C) (n : NoAttr K C f) (l : fs.lookup f = some v) (q : Q v H) : ∃ a' C' dx' fs' v', V.ref a = .ref a' ∧ H a' = some (.ins C' dx' fs') ∧ Cls K C' ∧ NoAttr K C' f ∧ fs'.lookup f = some v' ∧ Q v' H := ⟨a, C, dx, fs, v, rfl, h, c, n, l, q⟩
theorem go_sfld (h : tb σ H fun y H1 => ta σ H1 fun x H2 => ∃ a C dx fs, x = .ref a ∧ H2 a = some (.ins C dx fs) ∧ Cls K C ∧ NoAttr K C f ∧ fs.length < 1000 ∧ D.nx σ (upd H2 a (.ins C dx (putF f y fs)))) : sFld K ta tb f D σ H := h
theorem go_sfldE {R : Hp → Prop} (h : H a = some (.ins C dx fs)) (c : Cls K C) (n : NoAttr K C f) (l : fs.length < 1000) {gs : List (Str × V)} (e : putF f y fs = gs) (q : R (upd H a (.ins C dx gs))) : ∃ a' C' dx' fs', V.ref a = .ref a' ∧ H a' = some (.ins C' dx' fs') ∧ Cls K C' ∧ NoAttr K C' f ∧ fs'.length < 1000 ∧ R (upd H a' (.ins C' dx' (putF f y fs'))) :=
  ⟨a, C, dx, fs, rfl, h, c, n, l, by rw [e]; exact q⟩
theorem go_make (h : tA σ H fun vs H1 => ∀ x dx, H1 x = none → H1 dx = none → dx ≠ x → sp (.ref x :: (vs ++ dvs)) (upd (upd H1 dx (.own x)) x (.ins C dx [])) (fun v H2 => v = .non ∧ Q (.ref x) H2) E) : tMake C sp dvs E tA σ H Q := h
theorem go_inW {o : Option V} (hd : WDict K w d) (ha : WAt K d s o) (q : Q (.bl o.isSome) H) : rInW K w (.str s) (.ref d) H Q := ⟨d, s, o, rfl, rfl, hd, ha, q⟩
theorem go_ixW (hd : WDict K w d) (ha : WAt K d s (some v)) (q : Q v H) : rIxW K w (.ref d) (.str s) H Q := ⟨d, s, v, rfl, rfl, hd, ha, q⟩
theorem go_getW (h : ta σ H fun x H1 => ∃ d, x = .ref d ∧ WDict K w d ∧ tb σ H1 fun y H2 => ∃ (z : Str) (o : Option V), y = .str z ∧ WAt K d z o ∧ Q (o.getD .non) H2) : tGetW K w ta tb σ H Q := h
theorem inV_strs {ws : List Str} {x : Str} : inV (.str x) (ws.map V.str) = decide (x ∈ ws) := by
  induction ws with
  | nil => rfl
  | cons a l ih =>
    have e : inV (.str x) ((a :: l).map V.str) = ((a == x) || inV (.str x) (l.map V.str)) := rfl
    rw [e, ih]
    by_cases h : a = x
    · subst h; simp
    · have h' : ¬ x = a := fun z => h z.symm
      simp [h, h']
theorem flat_strs' (l : List Str) : (l.map V.str).all flatV = true := by
  induction l with
  | nil => rfl
  | cons a l ih => simp [List.all_cons, flatV, ih]
theorem go_inS (h : SqL K H p (ws.map V.str)) (q : Q (.bl (decide (s ∈ ws))) H) : rIn K false (.str s) (.ref p) H Q := ⟨p, _, rfl, Or.inl h, rfl, flat_strs' ws, by rw [inV_strs]; exact q⟩
theorem go_inST (h : SqT K H p (ws.map V.str)) (q : Q (.bl (decide (s ∈ ws))) H) : rIn K false (.str s) (.ref p) H Q := ⟨p, _, rfl, Or.inr h, rfl, flat_strs' ws, by rw [inV_strs]; exact q⟩
theorem go_ninS (h : SqL K H p (ws.map V.str)) (q : Q (.bl (!decide (s ∈ ws))) H) : rIn K true (.str s) (.ref p) H Q := ⟨p, _, rfl, Or.inl h, rfl, flat_strs' ws, by rw [inV_strs]; exact q⟩
/-- a written list of texts, where the texts are known -/
theorem go_inV {r : Bool} (h : SqL K H p xs) (f0 : xs.all flatV = true) (e : inV (.str s) xs = r) (q : Q (.bl r) H) : rIn K false (.str s) (.ref p) H Q := ⟨p, xs, rfl, Or.inl h, rfl, f0, by rw [e]; exact q⟩
theorem go_inVT {r : Bool} (h : SqT K H p xs) (f0 : xs.all flatV = true) (e : inV (.str s) xs = r) (q : Q (.bl r) H) : rIn K false (.str s) (.ref p) H Q := ⟨p, xs, rfl, Or.inr h, rfl, f0, by rw [e]; exact q⟩
theorem go_all {bs : List Bool} (h : SqL K H p (bs.map V.bl)) (q : Q (.bl (bs.all id)) H) : rAll K [.ref p] H Q := ⟨p, bs, rfl, h, q⟩
theorem go_any {bs : List Bool} (h : SqL K H p (bs.map V.bl)) (q : Q (.bl (bs.any id)) H) : rAny K [.ref p] H Q := ⟨p, bs, rfl, h, q⟩
theorem go_tupL (h : SqL K H p xs) (q : ∀ l, H l = none → Q (.ref l) (upd H l (.tup xs))) : rTupOf K [.ref p] H Q := ⟨p, xs, rfl, Or.inl ⟨h, q⟩⟩
theorem go_extT (h : H p = some (.lst xs)) (h' : SqT K H b ys) (hl : xs.length + ys.length ≤ sizeLine) (q : Q .non (upd H p (.lst (xs ++ ys)))) : rExtT K (.ref p) [.ref b] H Q := ⟨p, b, xs, ys, rfl, rfl, h, h', hl, q⟩
theorem go_ext (h : H p = some (.lst xs)) (h' : H b = some (.lst ys)) (hl : xs.length + ys.length ≤ sizeLine) (q : Q .non (upd H p (.lst (xs ++ ys)))) : rExtend (.ref p) [.ref b] H Q := ⟨p, b, xs, ys, rfl, rfl, h, h', hl, q⟩
theorem go_clear (h : H p = some (.lst xs)) (q : Q .non (upd H p (.lst []))) : rClear (.ref p) [] H Q := ⟨p, xs, rfl, rfl, h, q⟩
theorem go_orI (q : Q (.int (Builtin.bitOr i j)) H) : rOrI (.int i) (.int j) H Q := ⟨i, j, rfl, rfl, q⟩
theorem go_andI (q : Q (.int (Builtin.bitAnd i j)) H) : rAndI (.int i) (.int j) H Q := ⟨i, j, rfl, rfl, q⟩
theorem go_bits (h : ta σ H fun x H1 => ∃ i, x = .int i ∧ Q (.int (Builtin.Int.intBits i : Nat)) H1) : tBits ta σ H Q := h
theorem go_setI2 (h : ∀ p, H p = none → ta σ (upd H p (SetO w p (fun _ => false) 0)) fun x H1 => tb σ H1 fun y H2 =>
  H2 p = some (SetO w p (fun _ => false) 0) ∧ ∃ i j : Int, x = .int i ∧ y = .int j ∧ ∀ (S : Int → Bool) (n : Nat), n ≤ 2 → (∀ k, S k = true ↔ k = i ∨ k = j) → Q (.ref p) (upd H2 p (SetO w p S n))) : tSetI2 w ta tb σ H Q := h
theorem go_isNV (q : Q (.bl (decide (x = .non))) H) : rIsN0 x .non H Q := ⟨rfl, q⟩
theorem go_notNV (q : Q (.bl (!decide (x = .non))) H) : rNotN0 x .non H Q := ⟨rfl, q⟩
end
end Rf
namespace Rf
open PySem PySem.Spec PyProof.Rows L2
theorem go_ite_t {P : Prop} [Decidable P] {A B : Prop} (h : P) (q : A) : if decide P = true then A else B := by rw [decide_eq_true h]; exact q
theorem go_ite_f {P : Prop} [Decidable P] {A B : Prop} (h : ¬ P) (q : B) : if decide P = true then A else B := by rw [decide_eq_false h, if_neg Bool.false_ne_true]; exact q
theorem go_ite_nt {P : Prop} [Decidable P] {A B : Prop} (h : P) (q : B) : if (!decide P) = true then A else B := by rw [decide_eq_true h]; exact q
theorem go_ite_nf {P : Prop} [Decidable P] {A B : Prop} (h : ¬ P) (q : A) : if (!decide P) = true then A else B := by rw [decide_eq_false h]; exact q
/-- [f x for x in a tuple], nothing written -/
theorem go_lcTM {K : PySem.W.Frag} {σ : L2.St} {H : Hp} {Q : VK} {te : TE} {vs : List Nat} {a : Addr} {xs : List V} {j : Nat} (hS : SqT K H a xs) (f : V → V) (hl : xs.length < sizeLine) (hw2 : ∀ v, wipe ((wipe σ vs).set j (some v)) vs = wipe σ vs)
    (he : ∀ x ∈ xs, ∀ (H' : Hp) (R : VK), Keep [] H H' → R (f x) H' → te ((wipe σ vs).set j (some x)) H' R)
    (hd : ∀ Dn, H Dn = none → Q (.ref Dn) (upd H Dn (.lst (xs.map f)))) : ∃ a', V.ref a = .ref a' ∧ (∃ xs, SqT K H a' xs) ∧ LcQ (Itt K a') (gName j) tYes te vs Q σ H := by
  refine ⟨a, rfl, ⟨xs, hS⟩, fun Dn hD => ?_⟩
  refine lc_tup (K := K) (a := a) (xs := xs) (fun i H' => H' = upd H Dn (.lst ((xs.take i).map f))) rfl (fun i H' _ e => by rw [e]; exact (Keep.new (S := []) hD).tup (by simp) hS) (fun i x H' hi e => ?_) (fun H' e => ?_)
  · subst e
    obtain ⟨h, e⟩ := List.getElem?_eq_some_iff.mp hi
    refine ⟨hw2 _, ?_⟩
    refine go_yes ?_
    rw [if_pos rfl]
    refine he x (e ▸ List.getElem_mem h) _ _ (Keep.new hD) ⟨_, upd_same, ?_, ?_⟩
    · rw [List.length_map, List.length_take]; omega
    · rw [upd_upd, List.take_succ_eq_append_getElem h, e, List.map_append]; rfl
  · subst e
    rw [List.take_length]
    exact hd Dn hD
/-! ### tables of lists of ints, by text -/
def tInts : List Int → TA
  | [] => tNil
  | x :: l => tCons (tC (.int x)) (tInts l)
def tblTrs (l : List (Str × List Int)) : List (TE × TE) := l.map fun p => (tC (.str p.1), tLst (tInts p.2))
theorem tInts_go {σ : L2.St} {H : Hp} : ∀ {l : List Int} {Q : List V → Hp → Prop}, Q (l.map V.int) H → tInts l σ H Q
  | [], _, h => h
  | x :: l, Q, h => by
    show tInts l σ H fun xs H2 => Q (.int x :: xs) H2
    exact tInts_go (l := l) h
def TblAt (H : Hp) (d : Addr) (l : List (Str × List Int)) : Prop := ∃ as : List Addr, H d = some (.dK ((l.zip as).map fun p => (Sum.inr p.1.1, V.ref p.2))) ∧ Paired (fun a (p : Str × List Int) => H a = some (.lst (p.2.map V.int))) as l
theorem TblAt.keep {H H' : Hp} {S : List Addr} {d : Addr} {l : List (Str × List Int)} (k : Keep [] H H') (h : TblAt H d l) : TblAt H' d l := by
  obtain ⟨as, h1, h2⟩ := h
  exact ⟨as, k _ _ h1 (by simp), Paired.mapP h2 fun a p e => k _ _ e (by simp)⟩
theorem tbl_pairs {σ : L2.St} : ∀ {l : List (Str × List Int)} {H : Hp} {Q : List (V × V) → Hp → Prop}, (∀ p ∈ l, p.2.length ≤ 100000) →
    (∀ (as : List Addr) (H' : Hp), Keep [] H H' → Paired (fun a (p : Str × List Int) => H' a = some (.lst (p.2.map V.int))) as l → (∀ a ∈ as, H a = none) → Q ((l.zip as).map fun p => (V.str p.1.1, V.ref p.2)) H') → tPairs (tblTrs l) σ H Q
  | [], H, Q, _, h => h [] H Keep.refl .nil (by simp)
  | p :: l, H, Q, hz, h => by
    show tLst (tInts p.2) σ H fun y H2 => tPairs (tblTrs l) σ H2 fun ps H3 => Q ((.str p.1, y) :: ps) H3
    refine tInts_go ⟨sz (by rw [List.length_map]; exact hz p (by simp)), fun a na => ?_⟩
    refine tbl_pairs (fun x hx => hz x (by simp [hx])) fun as H' k hp hn => ?_
    refine h (a :: as) H' ((Keep.new na).trans k) (.cons (k _ _ upd_same (by simp)) hp) fun b hb => ?_
    rcases List.mem_cons.1 hb with e | e
    · subst e; exact na
    · exact (Keep.new (S := []) na).free (hn b e) (by simp)
theorem merge_nodup : ∀ (l k : List (Key × V)), ((k ++ l).map (·.1)).Nodup → mergeK k l = k ++ l
  | [], k, _ => by simp [mergeK]
  | p :: l, k, h => by
    have hn : valV k p.1 = none := by
      cases e : valV k p.1 with
      | none => rfl
      | some v =>
        exfalso
        have := valV_in e
        rw [List.map_append, List.map_cons, List.nodup_append] at h
        exact h.2.2 _ this _ (by simp) rfl
    show mergeK (putK k p.1 p.2) l = _
    rw [putK_new _ hn, merge_nodup l (k ++ [p]) (by rw [List.append_assoc]; exact h), List.append_assoc]
    rfl
theorem Paired.mapM {α β : Type} {F G : α → β → Prop} : ∀ {l : List α} {r : List β}, Paired F l r → (∀ a b, a ∈ l → F a b → G a b) → Paired G l r
  | _, _, .nil, _ => .nil
  | _, _, .cons h t, k => .cons (k _ _ (by simp) h) (Paired.mapM t fun a b m e => k a b (by simp [m]) e)
theorem zip_keys : ∀ (l : List (Str × List Int)) (as : List Addr), as.length = l.length → ((l.zip as).map fun p => ((Sum.inr p.1.1 : Key), V.ref p.2)).map (·.1) = l.map fun p => (Sum.inr p.1 : Key)
  | [], _, _ => rfl
  | p :: l, [], h => by simp at h
  | p :: l, a :: as, h => by
    show _ :: ((l.zip as).map _).map _ = _ :: _
    rw [zip_keys l as (by simpa using h)]
theorem go_tbl {σ : L2.St} {H : Hp} {Q : VK} (l : List (Str × List Int)) {trs : List (TE × TE)} (e : trs = tblTrs l) (hn : (l.map fun p => (Sum.inr p.1 : Key)).Nodup) (hl : l.length ≤ 15) (hz : ∀ p ∈ l, p.2.length ≤ 100000)
    (q : ∀ d H', H d = none → Keep [] H H' → TblAt H' d l → Q (.ref d) H') : tDisp trs σ H Q := by
  subst e
  intro d nd
  refine tbl_pairs hz fun as H' k hp ha => ?_
  have hd := k _ _ upd_same (by simp)
  have len := Paired.length hp
  refine ⟨hd, (l.zip as).map fun p => (Sum.inr p.1.1, V.ref p.2), by rw [List.map_map]; rfl, by rw [List.length_map, List.length_zip]; omega, ?_⟩
  rw [merge_nodup _ _ (by rw [List.nil_append, zip_keys l as len]; exact hn), List.nil_append]
  refine q d _ nd (((Keep.new nd).trans k).fresh nd) ⟨as, upd_same, ?_⟩
  have hna : ∀ a ∈ as, a ≠ d := fun a m e => by
    have := ha a m
    rw [e, upd_same] at this; cases this
  exact Rf.Paired.mapM hp fun a p m e => by rw [upd_ne (hna a m)]; exact e
theorem tbl_val {F : Addr → Str × List Int → Prop} {w : Str} : ∀ {as : List Addr} {l : List (Str × List Int)}, Paired F as l →
    (∃ a pl, (w, pl) ∈ l ∧ F a (w, pl) ∧ valV ((l.zip as).map fun p => ((Sum.inr p.1.1 : Key), V.ref p.2)) (Sum.inr w) = some (.ref a)) ∨
    (w ∉ l.map (·.1) ∧ valV ((l.zip as).map fun p => ((Sum.inr p.1.1 : Key), V.ref p.2)) (Sum.inr w) = none)
  | _, _, .nil => Or.inr ⟨by simp, rfl⟩
  | _, _, @Paired.cons _ _ _ a p as l h t => by
    by_cases e : p.1 = w
    · refine Or.inl ⟨a, p.2, by rw [← e]; simp, by rw [← e]; exact h, ?_⟩
      show valV ((Sum.inr p.1, V.ref a) :: _) _ = _
      rw [valV_pos (by rw [e])]
    · have e2 : valV (((p :: l).zip (a :: as)).map fun p => ((Sum.inr p.1.1 : Key), V.ref p.2)) (Sum.inr w) = valV ((l.zip as).map fun p => ((Sum.inr p.1.1 : Key), V.ref p.2)) (Sum.inr w) := by
        show valV ((Sum.inr p.1, V.ref a) :: _) _ = _
        rw [valV_neg (fun z => e (Sum.inr.inj z))]
        rfl
      rw [e2]
      rcases tbl_val (w := w) t with ⟨b, pl, h1, h2, h3⟩ | ⟨h1, h2⟩
      · exact Or.inl ⟨b, pl, by simp [h1], h2, h3⟩
      · exact Or.inr ⟨by
          rw [List.map_cons, List.mem_cons]
          rintro (z | z)
          · exact e z.symm
          · exact h1 z, h2⟩
theorem TblAt.look {H : Hp} {d : Addr} {l : List (Str × List Int)} (w : Str) (h : TblAt H d l) :
    (∃ a pl, (w, pl) ∈ l ∧ H a = some (.lst (pl.map V.int)) ∧ DGet H d (.str w) (some (.ref a))) ∨ (w ∉ l.map (·.1) ∧ DGet H d (.str w) none) := by
  obtain ⟨as, h1, h2⟩ := h
  rcases tbl_val (w := w) h2 with ⟨a, pl, m, e, v⟩ | ⟨m, v⟩
  · exact Or.inl ⟨a, pl, m, e, go_dgetS (rdO h1) v⟩
  · exact Or.inr ⟨m, go_dgetS (rdO h1) v⟩
def tblGet (l : List (Str × List Int)) (w : Str) : Option (List Int) := (l.find? fun p => decide (p.1 = w)).map (·.2)
theorem tbl_get {H : Hp} {w : Str} : ∀ {as : List Addr} {l : List (Str × List Int)}, Paired (fun a (p : Str × List Int) => H a = some (.lst (p.2.map V.int))) as l →
    (∀ pl, tblGet l w = some pl → ∃ a, H a = some (.lst (pl.map V.int)) ∧ valV ((l.zip as).map fun p => ((Sum.inr p.1.1 : Key), V.ref p.2)) (Sum.inr w) = some (.ref a)) ∧
    (tblGet l w = none → valV ((l.zip as).map fun p => ((Sum.inr p.1.1 : Key), V.ref p.2)) (Sum.inr w) = none)
  | _, _, .nil => ⟨fun pl e => (by cases e), fun _ => rfl⟩
  | _, _, @Paired.cons _ _ _ a p as l h t => by
    obtain ⟨i1, i2⟩ := tbl_get (w := w) t
    by_cases e : p.1 = w
    · have e1 : tblGet (p :: l) w = some p.2 := by unfold tblGet; simp [List.find?_cons, e]
      have e2 : valV (((p :: l).zip (a :: as)).map fun p => ((Sum.inr p.1.1 : Key), V.ref p.2)) (Sum.inr w) = some (.ref a) := by
        show valV ((Sum.inr p.1, V.ref a) :: _) _ = _
        rw [valV_pos (by rw [e])]
      exact ⟨fun pl z => ⟨a, (by rw [e1] at z; cases z; exact h), e2⟩, fun z => by rw [e1] at z; cases z⟩
    · have e1 : tblGet (p :: l) w = tblGet l w := by unfold tblGet; simp [List.find?_cons, e]
      have e2 : valV (((p :: l).zip (a :: as)).map fun p => ((Sum.inr p.1.1 : Key), V.ref p.2)) (Sum.inr w) = valV ((l.zip as).map fun p => ((Sum.inr p.1.1 : Key), V.ref p.2)) (Sum.inr w) := by
        show valV ((Sum.inr p.1, V.ref a) :: _) _ = _
        rw [valV_neg (fun z => e (Sum.inr.inj z))]
        rfl
      rw [e1, e2]
      exact ⟨i1, i2⟩
theorem TblAt.some {H : Hp} {d : Addr} {l : List (Str × List Int)} {w : Str} {pl : List Int} (h : TblAt H d l) (e : tblGet l w = some pl) : ∃ a, H a = some (.lst (pl.map V.int)) ∧ DGet H d (.str w) (some (.ref a)) := by
  obtain ⟨as, h1, h2⟩ := h
  obtain ⟨a, h3, h4⟩ := (tbl_get (w := w) h2).1 pl e
  exact ⟨a, h3, go_dgetS (rdO h1) h4⟩
theorem TblAt.none {H : Hp} {d : Addr} {l : List (Str × List Int)} {w : Str} (h : TblAt H d l) (e : tblGet l w = none) : DGet H d (.str w) none := by
  obtain ⟨as, h1, h2⟩ := h
  exact go_dgetS (rdO h1) ((tbl_get (w := w) h2).2 e)
theorem sqT_upd {K : PySem.W.Frag} {H : Hp} {a p : Addr} {o : HO} {xs : List V} (h : SqT K H a xs) (n : H p = none) : SqT K (upd H p o) a xs := (Keep.new (S := []) n).tup (by simp) h
theorem sqL_upd {K : PySem.W.Frag} {H : Hp} {a p : Addr} {o : HO} {xs : List V} (h : SqL K H a xs) (n : H p = none) : SqL K (upd H p o) a xs := (Keep.new (S := []) n).seq (by simp) h
end Rf
namespace CM
open PySem PySem.Spec PyProof.Rows L2 Rf
open PySem.PyData (strOk)
/-! ### good data: ints, texts, None, lists and tuples of them -/
mutual
def gd : PyData → Bool
  | .none => true
  | .int _ => true
  | .str x => strOk x
  | .list xs => decide (xs.length ≤ 1000) && gdA xs
  | .tuple xs => decide (xs.length ≤ 1000) && gdA xs
  | .bool _ => false
  | .dict _ => false
def gdA : List PyData → Bool
  | [] => true
  | x :: xs => gd x && gdA xs
end
mutual
theorem gd_lay : ∀ d : PyData, gd d = true → d.canLay0 = true
  | .none, _ => by simp [PyData.canLay0]
  | .int _, _ => by simp [PyData.canLay0]
  | .str x, h => by simpa [PyData.canLay0, gd] using h
  | .list xs, h => by
    simp only [gd, Bool.and_eq_true] at h
    simp only [PyData.canLay0]; exact gdA_lay xs h.2
  | .tuple xs, h => by
    simp only [gd, Bool.and_eq_true] at h
    simp only [PyData.canLay0]; exact gdA_lay xs h.2
theorem gdA_lay : ∀ ds : List PyData, gdA ds = true → PyData.canLayAll0 ds = true
  | [], _ => by simp [PyData.canLayAll0]
  | x :: xs, h => by
    simp only [gdA, Bool.and_eq_true] at h
    simp only [PyData.canLayAll0, Bool.and_eq_true]
    exact ⟨gd_lay x h.1, gdA_lay xs h.2⟩
end
mutual
theorem gd_eqv : ∀ d : PyData, gd d = true → PyData.eqv d d = true
  | .none, _ => by simp [PyData.eqv]
  | .int _, _ => by simp [PyData.eqv]
  | .str x, h => by simp [PyData.eqv]
  | .list xs, h => by
    simp only [gd, Bool.and_eq_true] at h
    simp only [PyData.eqv]; exact gdA_eqv xs h.2
  | .tuple xs, h => by
    simp only [gd, Bool.and_eq_true] at h
    simp only [PyData.eqv]; exact gdA_eqv xs h.2
theorem gdA_eqv : ∀ ds : List PyData, gdA ds = true → PyData.eqvAll ds ds = true
  | [], _ => by simp [PyData.eqvAll]
  | x :: xs, h => by
    simp only [gdA, Bool.and_eq_true] at h
    simp only [PyData.eqvAll, Bool.and_eq_true]
    exact ⟨gd_eqv x h.1, gdA_eqv xs h.2⟩
end
theorem gdA_all : ∀ {ds : List PyData}, gdA ds = true ↔ ∀ d ∈ ds, gd d = true
  | [] => by simp [gdA]
  | x :: xs => by simp [gdA, gdA_all (ds := xs)]
theorem depthAll_le : ∀ {ds : List PyData} {n : Nat}, (∀ d ∈ ds, d.depth ≤ n) → PyData.depthAll ds ≤ n
  | [], n, _ => by simp [PyData.depthAll]
  | x :: xs, n, h => by
    simp only [PyData.depthAll]
    exact Nat.max_le.2 ⟨h x (by simp), depthAll_le fun d hd => h d (by simp [hd])⟩
theorem depthAll_ge : ∀ {ds : List PyData} {d : PyData}, d ∈ ds → d.depth ≤ PyData.depthAll ds
  | x :: xs, d, h => by
    simp only [PyData.depthAll]
    rcases List.mem_cons.1 h with e | e
    · subst e; exact Nat.le_max_left _ _
    · exact Nat.le_trans (depthAll_ge e) (Nat.le_max_right _ _)
theorem gd_shaped {d : PyData} (h : gd d = true) (n : d.depth ≤ 64) : SeqAt.shaped d = true := by
  show (d.canLay0 && decide (d.depth ≤ 64)) = true
  rw [Bool.and_eq_true]
  exact ⟨gd_lay d h, decide_eq_true n⟩
/-- ints as data -/
def intsD (l : List Int) : List PyData := l.map PyData.int
theorem gd_ints (l : List Int) : gdA (intsD l) = true := by
  rw [gdA_all]; intro d hd
  obtain ⟨i, _, rfl⟩ := List.mem_map.1 hd
  rfl
theorem depth_ints (l : List Int) : PyData.depthAll (intsD l) = 0 := by
  have : PyData.depthAll (intsD l) ≤ 0 := depthAll_le fun d hd => by
    obtain ⟨i, _, rfl⟩ := List.mem_map.1 hd
    simp [PyData.depth]
  omega
/-! ### words -/
structure WordOk (s : Str) : Prop where
  lo : 1 ≤ s.length
  hi : s.length ≤ 12
  ok : strOk s = true
theorem strOk_append {s t : Str} (h : strOk s = true) (h' : strOk t = true) : strOk (s ++ t) = true := by
  have e : (s ++ t).cps = s.cps ++ t.cps := rfl
  unfold strOk at *
  rw [e, Array.all_append, h, h']; rfl
theorem len_append (s t : Str) : (s ++ t).length = s.length + t.length := by
  show (s.cps ++ t.cps).size = _
  rw [Array.size_append]; rfl
/-- the sign at a place of a text -/
theorem sign_ok {s : Str} {c : Nat} (h : strOk s = true) (m : c ∈ s.cps.toList) : strOk ⟨#[c]⟩ = true := by
  unfold strOk at *
  rw [← Array.all_toList, List.all_eq_true] at h
  simpa using h c m
theorem join_empty (ys : List Str) : (Txt.join "" ys).cps.toList = (ys.map fun y => y.cps.toList).flatten := by
  have e := SX.join_S [] (ys.map fun y => y.cps.toList)
  have e1 : (ys.map fun y => y.cps.toList).map SX.S = ys := by
    rw [List.map_map]
    conv => rhs; rw [← List.map_id ys]
    exact List.map_congr_left fun y _ => rfl
  rw [e1] at e
  have e2 : Txt.join "" ys = Txt.join (SX.S []) ys := rfl
  rw [e2, e]
  have j : ∀ l : List (List Nat), TL.joinL [] l = l.flatten := by
    intro l
    induction l with
    | nil => rfl
    | cons p r ih =>
      cases r with
      | nil => simp [TL.joinL]
      | cons q r =>
        show p ++ ([] ++ TL.joinL [] (q :: r)) = _
        rw [ih]; simp
  rw [j]
theorem join_signs {ys : List Str} (h : ∀ y ∈ ys, y.length = 1 ∧ strOk y = true) : (Txt.join "" ys).length = ys.length ∧ strOk (Txt.join "" ys) = true := by
  have e := join_empty ys
  constructor
  · show (Txt.join "" ys).cps.size = _
    rw [← Array.length_toList, e]
    clear e
    induction ys with
    | nil => rfl
    | cons y ys ih =>
      rw [List.map_cons, List.flatten_cons, List.length_append, ih fun z hz => h z (by simp [hz])]
      have := (h y (by simp)).1
      have e2 : y.cps.toList.length = y.length := by simp [Str.length]
      rw [e2, this, List.length_cons]; omega
  · unfold strOk
    rw [← Array.all_toList, e, List.all_eq_true]
    intro c hc
    obtain ⟨l, hl, hc⟩ := List.mem_flatten.1 hc
    obtain ⟨y, hy, rfl⟩ := List.mem_map.1 hl
    have := (h y hy).2
    unfold strOk at this
    rw [← Array.all_toList, List.all_eq_true] at this
    exact this c hc
/-! ### rows -/
inductive Ins where
  | const (a : Int) (d : PyData)
  | two (w : Str) (a b : Int)
  | op (n : Str) (a b c : Int)
  | jump (t : Int)
  | branch (a t : Int)
  | nam (w : Str) (a : Int) (n : Str)
  | setg (n : Str) (a : Int)
  | get (a b : Int) (n : Str)
  | put (a : Int) (n : Str) (b : Int)
  | three (w : Str) (a b c : Int)
  | call (a : Int) (n : Str) (g : List Int)
  | callv (a b : Int) (g : List Int)
  | meth (a b : Int) (n : Str) (g : List Int)
  | spawn (n : Str) (g : List Int)
  | pause
  | one (w : Str) (a : Int)
def Ins.data : Ins → List PyData
  | .const a d => [.str "const", .int a, d]
  | .two w a b => [.str w, .int a, .int b]
  | .op n a b c => [.str "op", .str n, .int a, .int b, .int c]
  | .jump t => [.str "jump", .int t]
  | .branch a t => [.str "branch", .int a, .int t]
  | .nam w a n => [.str w, .int a, .str n]
  | .setg n a => [.str "setg", .str n, .int a]
  | .get a b n => [.str "get", .int a, .int b, .str n]
  | .put a n b => [.str "put", .int a, .str n, .int b]
  | .three w a b c => [.str w, .int a, .int b, .int c]
  | .call a n g => [.str "call", .int a, .str n, .tuple (intsD g)]
  | .callv a b g => [.str "callv", .int a, .int b, .tuple (intsD g)]
  | .meth a b n g => [.str "method", .int a, .int b, .str n, .tuple (intsD g)]
  | .spawn n g => [.str "spawn", .str n, .tuple (intsD g)]
  | .pause => [.str "pause"]
  | .one w a => [.str w, .int a]
def Ins.word : Ins → Str
  | .const _ _ => "const" | .two w _ _ => w | .op _ _ _ _ => "op" | .jump _ => "jump" | .branch _ _ => "branch" | .nam w _ _ => w | .setg _ _ => "setg" | .get _ _ _ => "get"
  | .put _ _ _ => "put" | .three w _ _ _ => w | .call _ _ _ => "call" | .callv _ _ _ => "callv" | .meth _ _ _ _ => "method" | .spawn _ _ => "spawn" | .pause => "pause" | .one w _ => w
def W25 : List Str := ["const", "move", "op", "not", "jump", "branch", "getg", "setg", "new", "get", "put", "drop", "array", "at", "setat", "len", "call", "callv", "method", "return", "say", "fail", "load", "spawn", "pause"]
def Sl (size x : Int) : Prop := 0 ≤ x ∧ x < size
/-- a row for a code of `many` rows and `size` slots -/
def Ins.Ok (many size : Int) : Ins → Prop
  | .const a d => Sl size a ∧ gd d = true ∧ d.depth ≤ 1
  | .two w a b => (w = "move" ∨ w = "not" ∨ w = "array" ∨ w = "len") ∧ Sl size a ∧ Sl size b
  | .op n a b c => strOk n = true ∧ Sl size a ∧ Sl size b ∧ Sl size c
  | .jump t => Sl many t
  | .branch a t => Sl size a ∧ Sl many t
  | .nam w a n => (w = "getg" ∨ w = "new" ∨ w = "drop") ∧ Sl size a ∧ strOk n = true
  | .setg n a => strOk n = true ∧ Sl size a
  | .get a b n => Sl size a ∧ Sl size b ∧ strOk n = true
  | .put a n b => Sl size a ∧ strOk n = true ∧ Sl size b
  | .three w a b c => (w = "at" ∨ w = "setat") ∧ Sl size a ∧ Sl size b ∧ Sl size c
  | .call a n g => Sl size a ∧ strOk n = true ∧ (∀ x ∈ g, Sl size x) ∧ g.length ≤ 5
  | .callv a b g => Sl size a ∧ Sl size b ∧ (∀ x ∈ g, Sl size x) ∧ g.length ≤ 5
  | .meth a b n g => Sl size a ∧ Sl size b ∧ strOk n = true ∧ (∀ x ∈ g, Sl size x) ∧ g.length ≤ 5
  | .spawn n g => strOk n = true ∧ (∀ x ∈ g, Sl size x) ∧ g.length ≤ 5
  | .pause => True
  | .one w a => (w = "return" ∨ w = "say" ∨ w = "fail" ∨ w = "load") ∧ Sl size a
theorem tup_ints {g : List Int} (h : g.length ≤ 5) : gd (.tuple (intsD g)) = true := by
  simp only [gd, Bool.and_eq_true]
  exact ⟨decide_eq_true (by unfold intsD; rw [List.length_map]; omega), gd_ints g⟩
theorem Ins.gd {m s : Int} {i : Ins} (h : i.Ok m s) : gd (.tuple i.data) = true := by
  have lits : ∀ w ∈ W25, strOk w = true := by decide +kernel
  have l2 : ∀ {w : Str}, (w = "move" ∨ w = "not" ∨ w = "array" ∨ w = "len") → strOk w = true := by rintro w (rfl | rfl | rfl | rfl) <;> exact lits _ (by simp [W25])
  have l3 : ∀ {w : Str}, (w = "getg" ∨ w = "new" ∨ w = "drop") → strOk w = true := by rintro w (rfl | rfl | rfl) <;> exact lits _ (by simp [W25])
  have l4 : ∀ {w : Str}, (w = "at" ∨ w = "setat") → strOk w = true := by rintro w (rfl | rfl) <;> exact lits _ (by simp [W25])
  have l5 : ∀ {w : Str}, (w = "return" ∨ w = "say" ∨ w = "fail" ∨ w = "load") → strOk w = true := by rintro w (rfl | rfl | rfl | rfl) <;> exact lits _ (by simp [W25])
  have z : ∀ {l : List PyData}, l.length ≤ 6 → gdA l = true → CM.gd (.tuple l) = true := fun a b => by
    simp only [CM.gd, Bool.and_eq_true]; exact ⟨decide_eq_true (by omega), b⟩
  cases i <;> refine z (by simp [Ins.data]) ?_ <;> simp only [Ins.data, gdA, CM.gd, Bool.and_eq_true, Bool.and_true, Bool.true_and]
  case const a d => exact ⟨lits _ (by simp [W25]), h.2.1⟩
  case two w a b => exact l2 h.1
  case op n a b c => exact ⟨lits _ (by simp [W25]), h.1⟩
  case jump t => exact lits _ (by simp [W25])
  case branch a t => exact lits _ (by simp [W25])
  case nam w a n => exact ⟨l3 h.1, h.2.2⟩
  case setg n a => exact ⟨lits _ (by simp [W25]), h.1⟩
  case get a b n => exact ⟨lits _ (by simp [W25]), h.2.2⟩
  case put a n b => exact ⟨lits _ (by simp [W25]), h.2.1⟩
  case three w a b c => exact l4 h.1
  case call a n g => exact ⟨lits _ (by simp [W25]), h.2.1, decide_eq_true (by have := h.2.2.2; simp [intsD]; omega), gd_ints g⟩
  case callv a b g => exact ⟨lits _ (by simp [W25]), decide_eq_true (by have := h.2.2.2; simp [intsD]; omega), gd_ints g⟩
  case meth a b n g => exact ⟨lits _ (by simp [W25]), h.2.2.1, decide_eq_true (by have := h.2.2.2.2; simp [intsD]; omega), gd_ints g⟩
  case spawn n g => exact ⟨lits _ (by simp [W25]), h.1, decide_eq_true (by have := h.2.2; simp [intsD]; omega), gd_ints g⟩
  case pause => exact lits _ (by simp [W25])
  case one w a => exact l5 h.1
theorem Ins.depth {m s : Int} {i : Ins} (h : i.Ok m s) : (PyData.tuple i.data).depth ≤ 2 := by
  simp only [PyData.depth]
  have z : PyData.depthAll i.data ≤ 1 := by
    refine depthAll_le fun d hd => ?_
    cases i <;> simp only [Ins.data, List.mem_cons, List.not_mem_nil, or_false] at hd
    case const a d =>
      rcases hd with e | e | e
      · rw [e]; simp [PyData.depth]
      · rw [e]; simp [PyData.depth]
      · rw [e]; exact h.2.2
    all_goals first | (rcases hd with rfl | rfl | rfl | rfl | rfl <;> simp [PyData.depth, depth_ints]) | (rcases hd with rfl | rfl | rfl | rfl <;> simp [PyData.depth, depth_ints]) | (rcases hd with rfl | rfl | rfl <;> simp [PyData.depth, depth_ints]) | (rcases hd with rfl | rfl <;> simp [PyData.depth, depth_ints]) | (subst hd; simp [PyData.depth])
  omega
/-! ### what a row does -/
/-- the slots read, in the order of the program -/
def Ins.reads : Ins → List Int
  | .const _ _ => []
  | .two w _ b => [b]
  | .op _ _ b c => [b, c]
  | .jump _ => []
  | .branch a _ => [a]
  | .nam w a _ => if w = "drop" then [a] else []
  | .setg _ a => [a]
  | .get _ b _ => [b]
  | .put a _ b => [a, b]
  | .three w a b c => if w = "at" then [b, c] else [a, b, c]
  | .call _ _ g => g
  | .callv _ b g => b :: g
  | .meth _ b _ g => b :: g
  | .spawn _ g => g
  | .pause => []
  | .one _ a => [a]
def Ins.written : Ins → Option Int
  | .const a _ => some a
  | .two _ a _ => some a
  | .op _ a _ _ => some a
  | .nam w a _ => if w = "drop" then none else some a
  | .get a _ _ => some a
  | .three w a _ _ => if w = "at" then some a else none
  | .call a _ _ => some a
  | .callv a _ _ => some a
  | .meth a _ _ _ => some a
  | _ => none
/-! ### handlers, codes -/
abbrev Hd := Int × Int × Int × Int
def hdD (h : Hd) : PyData := .tuple [.int h.1, .int h.2.1, .int h.2.2.1, .int h.2.2.2]
structure Drw where
  nm : Str
  pa : Int
  sz : Int
  rows : List Ins
  hs : List Hd
structure HdOk (many size : Int) (h : Hd) : Prop where
  to : Sl many h.2.2.1
  sl : Sl size h.2.2.2
def ends (i : Ins) : Prop := i.word = "jump" ∨ i.word = "return" ∨ i.word = "fail"
structure Drw.Ok (D : Drw) : Prop where
  nm : WordOk D.nm
  s1 : 1 ≤ D.sz
  s2 : D.sz ≤ 10
  r1 : 1 ≤ D.rows.length
  r2 : D.rows.length ≤ 30
  rows : ∀ i ∈ D.rows, i.Ok D.rows.length D.sz
  last : ∀ i, D.rows[D.rows.length - 1]? = some i → ends i
  hs : ∀ h ∈ D.hs, HdOk D.rows.length D.sz h
  hl : D.hs.length ≤ 5
/-- the places behind a row -/
def later (i : Ins) (pc : Int) : List Int := match i with
  | .jump t => [t]
  | .branch _ t => if t = pc + 1 then [pc + 1] else if t < pc + 1 then [t, pc + 1] else [pc + 1, t]
  | .one w _ => if w = "return" ∨ w = "fail" then [] else [pc + 1]
  | _ => [pc + 1]
def catcher (hs : List Hd) (pc : Int) : Option Hd := hs.find? fun h => decide (h.1 ≤ pc) && decide (pc < h.2.1)
def optV : Option Int → V
  | none => .non
  | some x => .int x
end CM
namespace CM
open PySem PySem.Spec PyProof.Rows L2 Rf
/-! ### masks -/
theorem bitAnd_nat (a b : Nat) : Builtin.bitAnd (a : Int) (b : Int) = ((a &&& b : Nat) : Int) := by
  unfold Builtin.bitAnd
  rw [decide_eq_true (by omega : (0 : Int) ≤ a), decide_eq_true (by omega : (0 : Int) ≤ b)]
  simp
theorem bitOr_nat (a b : Nat) : Builtin.bitOr (a : Int) (b : Int) = ((a ||| b : Nat) : Int) := by
  unfold Builtin.bitOr Builtin.bitAnd Builtin.bitNot
  rw [decide_eq_false (by omega : ¬ (0 : Int) ≤ -(a : Int) - 1), decide_eq_false (by omega : ¬ (0 : Int) ≤ -(b : Int) - 1)]
  have e1 : (-(-(a : Int) - 1) - 1).toNat = a := by omega
  have e2 : (-(-(b : Int) - 1) - 1).toNat = b := by omega
  show -(-(((-(-(a : Int) - 1) - 1).toNat ||| (-(-(b : Int) - 1) - 1).toNat : Nat) : Int) - 1) - 1 = _
  rw [e1, e2]; omega
theorem two_bit (s k : Nat) : (2 ^ s).testBit k = decide (s = k) := by
  rw [Nat.testBit_two_pow]
theorem and_two (m s : Nat) : m &&& 2 ^ s = if m.testBit s = true then 2 ^ s else 0 := by
  apply Nat.eq_of_testBit_eq
  intro i
  rw [Nat.testBit_and, two_bit]
  by_cases h : s = i
  · subst h
    cases e : m.testBit s <;> simp [two_bit]
  · cases e : m.testBit s <;> simp [two_bit, h]
def wo (m : Nat) (s : Int) : Nat := m - (m &&& 2 ^ s.toNat)
theorem wo_le (m : Nat) (s : Int) : wo m s ≤ m := Nat.sub_le _ _
theorem sub_bit (m s k : Nat) (h : m.testBit s = true) : (m - 2 ^ s).testBit k = (m.testBit k && !decide (s = k)) := by
  have hp : 0 < 2 ^ s := Nat.two_pow_pos s
  have e : m = 2 ^ s * (m / 2 ^ s) + m % 2 ^ s := (Nat.div_add_mod m (2 ^ s)).symm
  have hr : m % 2 ^ s < 2 ^ s := Nat.mod_lt _ hp
  have hq : (m / 2 ^ s) % 2 = 1 := by
    rw [e, Nat.testBit_two_pow_mul_add _ hr] at h
    rw [if_neg (Nat.lt_irrefl s), Nat.sub_self, Nat.testBit_zero] at h
    exact of_decide_eq_true h
  generalize m / 2 ^ s = q at e hq
  generalize m % 2 ^ s = r at e hr
  subst e
  obtain ⟨c, rfl⟩ : ∃ c, q = 2 * c + 1 := ⟨q / 2, by omega⟩
  have e2 : 2 ^ s * (2 * c + 1) + r - 2 ^ s = 2 ^ s * (2 * c) + r := by
    rw [Nat.mul_add, Nat.mul_one]; omega
  rw [e2, Nat.testBit_two_pow_mul_add _ hr, Nat.testBit_two_pow_mul_add _ hr]
  by_cases h1 : k < s
  · rw [if_pos h1, if_pos h1, decide_eq_false (by omega)]; simp
  · rw [if_neg h1, if_neg h1]
    by_cases h2 : s = k
    · subst h2
      rw [Nat.sub_self, Nat.testBit_zero, decide_eq_true rfl]
      simp
    · rw [decide_eq_false h2]
      obtain ⟨d, hd⟩ : ∃ d, k - s = d + 1 := ⟨k - s - 1, by omega⟩
      rw [hd, Nat.testBit_succ, Nat.testBit_succ]
      have e3 : 2 * c / 2 = c := by omega
      have e4 : (2 * c + 1) / 2 = c := by omega
      rw [e3, e4]; simp
theorem wo_bit (m : Nat) (s : Int) (k : Nat) : (wo m s).testBit k = (m.testBit k && !decide (s.toNat = k)) := by
  unfold wo
  rw [and_two]
  cases h : m.testBit s.toNat with
  | true => rw [if_pos rfl]; exact sub_bit m s.toNat k h
  | false =>
    rw [if_neg Bool.false_ne_true, Nat.sub_zero]
    by_cases e : s.toNat = k
    · subst e; rw [h]; rfl
    · rw [decide_eq_false e]; simp
def orL (xs : List Nat) : Nat := xs.foldl (· ||| ·) 0
theorem orL_go (xs : List Nat) : ∀ (a k : Nat), (xs.foldl (· ||| ·) a).testBit k = (a.testBit k || xs.any fun x => x.testBit k) := by
  induction xs with
  | nil => intro a k; simp
  | cons x xs ih => intro a k; rw [List.foldl_cons, ih, Nat.testBit_or, List.any_cons, Bool.or_assoc]
theorem orL_bit (xs : List Nat) (k : Nat) : (orL xs).testBit k = xs.any fun x => x.testBit k := by
  unfold orL; rw [orL_go]; simp
def maskL (xs : List Int) : Nat := orL (xs.map fun x => 2 ^ x.toNat)
theorem maskL_bit (xs : List Int) (k : Nat) : (maskL xs).testBit k = xs.any fun x => decide (x.toNat = k) := by
  unfold maskL
  rw [orL_bit, List.any_map]
  congr 1
  funext x
  exact two_bit _ _
theorem lt_of_bits {m n : Nat} (h : ∀ k, m.testBit k = true → k < n) : m < 2 ^ n := Nat.lt_pow_two_of_testBit m fun i hi => by
  cases e : m.testBit i with
  | false => rfl
  | true => have := h i e; omega
theorem bits_lt {m n k : Nat} (h : m < 2 ^ n) (e : m.testBit k = true) : k < n := by
  by_cases c : k < n
  · exact c
  · have : m < 2 ^ k := Nat.lt_of_lt_of_le h (Nat.pow_le_pow_right (by decide) (by omega))
    rw [Nat.testBit_lt_two_pow this] at e
    cases e
/-- the members of a mask, ascending -/
def bits (m : Nat) : List Int := ((List.range 10).filter fun k => m.testBit k).map fun k : Nat => (k : Int)
theorem filter_range {f : Nat → Bool} {n : Nat} (h : ∀ i, n ≤ i → f i = false) : ∀ k, (List.range (n + k)).filter f = (List.range n).filter f
  | 0 => rfl
  | k + 1 => by
    rw [← Nat.add_assoc, List.range_succ, List.filter_append, filter_range h k]
    simp [h (n + k) (by omega)]
theorem filter_two {f : Nat → Bool} {n k : Nat} (h : ∀ i, n ≤ i → f i = false) (h' : ∀ i, k ≤ i → f i = false) : (List.range n).filter f = (List.range k).filter f := by
  rcases Nat.le_total n k with l | l
  · have e : k = n + (k - n) := by omega
    rw [e, filter_range h]
  · have e : n = k + (n - k) := by omega
    rw [e, filter_range h']
theorem no_bit {m n : Nat} (h : m < 2 ^ n) : ∀ i, n ≤ i → m.testBit i = false := fun i hi => by
  cases e : m.testBit i with
  | false => rfl
  | true => have := bits_lt h e; omega
theorem bits_eq {m n : Nat} {f : Nat → Bool} (h : m < 1024) (hf : ∀ k, k < n → f k = m.testBit k) (hn : m < 2 ^ n) : ((List.range n).filter f).map (fun k : Nat => (k : Int)) = bits m := by
  unfold bits
  congr 1
  rw [← filter_two (f := fun k => m.testBit k) (no_bit hn) (no_bit (n := 10) h)]
  exact List.filter_congr fun k hk => hf k (List.mem_range.1 hk)
theorem mem_bits {m : Nat} {x : Int} (h : m < 1024) : x ∈ bits m ↔ 0 ≤ x ∧ m.testBit x.toNat = true := by
  unfold bits
  rw [List.mem_map]
  constructor
  · rintro ⟨k, hk, rfl⟩
    exact ⟨by omega, by simpa using (List.mem_filter.1 hk).2⟩
  · rintro ⟨h0, h1⟩
    refine ⟨x.toNat, List.mem_filter.2 ⟨List.mem_range.2 (bits_lt (n := 10) h h1), by simpa using h1⟩, by omega⟩
theorem len_bits (m : Nat) : (bits m).length ≤ 10 := by
  unfold bits
  rw [List.length_map]
  exact Nat.le_trans (List.length_filter_le _ _) (by simp)
theorem intBits_lt (m : Nat) : m < 2 ^ Builtin.Int.intBits (m : Int) := by
  unfold Builtin.Int.intBits
  by_cases h : m = 0
  · subst h; decide
  · have e : ((m : Int) == 0) = false := by simp; exact h
    rw [e, if_neg Bool.false_ne_true]
    exact Nat.lt_log2_self
theorem intBits_le {m : Nat} (h : m < 1024) : Builtin.Int.intBits (m : Int) ≤ 10 := by
  unfold Builtin.Int.intBits
  by_cases e : m = 0
  · subst e; decide
  · have e2 : ((m : Int) == 0) = false := by simp; exact e
    rw [e2, if_neg Bool.false_ne_true]
    have : (m : Int).natAbs.log2 < 10 := by
      show m.log2 < 10
      exact (Nat.log2_lt e).2 h
    omega
/-! ### the equations -/
def st (ms : List Nat) (x : Int) : Nat := ms.getD x.toNat 0
def waitM (D : Drw) (ms : List Nat) (j : Nat) : Nat := match D.rows[j]? with
  | none => 0
  | some i =>
    let f := orL ((later i j).map (st ms))
    let g := match i.written with | none => f | some s => wo f s
    match catcher D.hs j with | none => g | some h => g ||| wo (st ms h.2.2.1) h.2.2.2
def upM (D : Drw) (ms : List Nat) (j : Nat) : Nat := match D.rows[j]? with
  | none => 0
  | some i => maskL i.reads ||| waitM D ms j
def waitB (D : Drw) (ms : List Nat) (i : Ins) (j k : Nat) : Bool :=
  (((later i j).any fun x => (st ms x).testBit k) && !decide (i.written = some (k : Int))) || match catcher D.hs j with | none => false | some h => (st ms h.2.2.1).testBit k && !decide (h.2.2.2 = (k : Int))
theorem toNat_dec {s : Int} (h : 0 ≤ s) (k : Nat) : decide (s.toNat = k) = decide (s = (k : Int)) := by
  by_cases e : s = (k : Int)
  · subst e; simp
  · rw [decide_eq_false e, decide_eq_false (by omega)]
theorem waitM_bit {D : Drw} {ms : List Nat} {i : Ins} {j : Nat} (hi : D.rows[j]? = some i) (hw : ∀ s, i.written = some s → 0 ≤ s) (hc : ∀ h ∈ D.hs, 0 ≤ h.2.2.2) (k : Nat) : (waitM D ms j).testBit k = waitB D ms i j k := by
  unfold waitM waitB
  rw [hi]
  have e1 : (match i.written with | none => orL ((later i j).map (st ms)) | some s => wo (orL ((later i j).map (st ms))) s : Nat).testBit k = (((later i j).any fun x => (st ms x).testBit k) && !decide (i.written = some (k : Int))) := by
    cases e : i.written with
    | none => simp [orL_bit, List.any_map, Function.comp_def]
    | some s =>
      show (wo _ s).testBit k = _
      rw [wo_bit, orL_bit, List.any_map, toNat_dec (hw s e)]
      simp [Function.comp_def]
  cases e : catcher D.hs j with
  | none =>
    show (match i.written with | none => orL ((later i j).map (st ms)) | some s => wo (orL ((later i j).map (st ms))) s : Nat).testBit k = _
    rw [e1]; simp
  | some h =>
    show ((match i.written with | none => orL ((later i j).map (st ms)) | some s => wo (orL ((later i j).map (st ms))) s : Nat) ||| wo (st ms h.2.2.1) h.2.2.2).testBit k = _
    rw [Nat.testBit_or, e1, wo_bit, toNat_dec (hc h (List.mem_of_find?_eq_some e))]
def step (D : Drw) (ms : List Nat) (j : Nat) : List Nat := ms.set j (upM D ms j)
def part (D : Drw) (ms : List Nat) : Nat → List Nat
  | 0 => ms
  | k + 1 => step D (part D ms k) (D.rows.length - 1 - k)
def round (D : Drw) (ms : List Nat) : List Nat := part D ms D.rows.length
def iter (D : Drw) : Nat → List Nat
  | 0 => List.replicate D.rows.length 0
  | k + 1 => round D (iter D k)
def solM (D : Drw) : List Nat := iter D 301
def cnt (m : Nat) : Nat := (bits m).length
def total (ms : List Nat) : Nat := (ms.map cnt).sum
/-- below and beside -/
structure Fine (D : Drw) (ms : List Nat) : Prop where
  len : ms.length = D.rows.length
  lt : ∀ m ∈ ms, m < 2 ^ D.sz.toNat
  inc : ∀ j, j < D.rows.length → ∀ k, (ms.getD j 0).testBit k = true → (upM D ms j).testBit k = true
def Sub (ms ms' : List Nat) : Prop := ∀ j k, (ms.getD j 0).testBit k = true → (ms'.getD j 0).testBit k = true
theorem written_ok {m s : Int} {i : Ins} (h : i.Ok m s) : ∀ x, i.written = some x → Sl s x := by
  intro x e
  cases i <;> simp only [Ins.written] at e
  case const a d => cases e; exact h.1
  case two w a b => cases e; exact h.2.1
  case op n a b c => cases e; exact h.2.1
  case nam w a n =>
    split at e
    · cases e
    · cases e; exact h.2.1
  case get a b n => cases e; exact h.1
  case three w a b c =>
    split at e
    · cases e; exact h.2.1
    · cases e
  case call a n g => cases e; exact h.1
  case callv a b g => cases e; exact h.1
  case meth a b n g => cases e; exact h.1
  all_goals cases e
theorem reads_ok {m s : Int} {i : Ins} (h : i.Ok m s) : ∀ x ∈ i.reads, Sl s x := by
  intro x e
  cases i <;> simp only [Ins.reads, List.mem_cons, List.not_mem_nil, or_false] at e
  case two w a b => subst e; exact h.2.2
  case op n a b c =>
    rcases e with rfl | rfl
    · exact h.2.2.1
    · exact h.2.2.2
  case branch a t => subst e; exact h.1
  case nam w a n =>
    split at e
    · simp at e; subst e; exact h.2.1
    · simp at e
  case setg n a => subst e; exact h.2
  case get a b n => subst e; exact h.2.1
  case put a n b =>
    rcases e with rfl | rfl
    · exact h.1
    · exact h.2.2
  case three w a b c =>
    split at e
    · simp at e
      rcases e with rfl | rfl
      · exact h.2.2.1
      · exact h.2.2.2
    · simp at e
      rcases e with rfl | rfl | rfl
      · exact h.2.1
      · exact h.2.2.1
      · exact h.2.2.2
  case call a n g => exact h.2.2.1 x e
  case callv a b g =>
    rcases e with rfl | e
    · exact h.2.1
    · exact h.2.2.1 x e
  case meth a b n g =>
    rcases e with rfl | e
    · exact h.2.1
    · exact h.2.2.2.1 x e
  case spawn n g => exact h.2.1 x e
  case one w a => subst e; exact h.2
theorem Drw.Ok.row {D : Drw} (o : D.Ok) {j : Nat} {i : Ins} (h : D.rows[j]? = some i) : i.Ok D.rows.length D.sz := o.rows i (List.mem_of_getElem? h)
theorem Drw.Ok.wbit {D : Drw} (o : D.Ok) {ms : List Nat} {i : Ins} {j : Nat} (hi : D.rows[j]? = some i) (k : Nat) : (waitM D ms j).testBit k = waitB D ms i j k :=
  waitM_bit hi (fun s e => (written_ok (o.row hi) s e).1) (fun h m => (o.hs h m).sl.1) k
theorem waitB_mono {D : Drw} {ms ms' : List Nat} (s : Sub ms ms') {i : Ins} {j k : Nat} (h : waitB D ms i j k = true) : waitB D ms' i j k = true := by
  unfold waitB at *
  rw [Bool.or_eq_true] at *
  rcases h with h | h
  · left
    rw [Bool.and_eq_true] at *
    refine ⟨?_, h.2⟩
    obtain ⟨x, hx, e⟩ := List.any_eq_true.1 h.1
    exact List.any_eq_true.2 ⟨x, hx, s _ _ e⟩
  · right
    cases e : catcher D.hs j with
    | none => rw [e] at h; cases h
    | some y =>
      rw [e] at h
      dsimp only at h ⊢
      rw [Bool.and_eq_true] at *
      exact ⟨s _ _ h.1, h.2⟩
theorem upM_bit {D : Drw} (o : D.Ok) {ms : List Nat} {i : Ins} {j : Nat} (hi : D.rows[j]? = some i) (k : Nat) : (upM D ms j).testBit k = ((i.reads.any fun x => decide (x.toNat = k)) || waitB D ms i j k) := by
  have e : upM D ms j = maskL i.reads ||| waitM D ms j := by unfold upM; rw [hi]
  rw [e, Nat.testBit_or, maskL_bit, o.wbit hi]
theorem upM_mono {D : Drw} (o : D.Ok) {ms ms' : List Nat} (s : Sub ms ms') {j k : Nat} (hj : j < D.rows.length) (h : (upM D ms j).testBit k = true) : (upM D ms' j).testBit k = true := by
  have hi : D.rows[j]? = some D.rows[j] := List.getElem?_eq_getElem hj
  rw [upM_bit o hi, Bool.or_eq_true] at *
  exact h.imp id (waitB_mono s)
theorem st_lt {D : Drw} {ms : List Nat} (h : ∀ m ∈ ms, m < 2 ^ D.sz.toNat) (x : Int) : st ms x < 2 ^ D.sz.toNat := by
  unfold st
  rw [List.getD_eq_getElem?_getD]
  cases e : ms[x.toNat]? with
  | none => exact Nat.two_pow_pos _
  | some m => exact h m (List.mem_of_getElem? e)
theorem waitM_lt {D : Drw} (o : D.Ok) {ms : List Nat} (h : ∀ m ∈ ms, m < 2 ^ D.sz.toNat) {j : Nat} (hj : j < D.rows.length) : waitM D ms j < 2 ^ D.sz.toNat := by
  have hi : D.rows[j]? = some D.rows[j] := List.getElem?_eq_getElem hj
  refine lt_of_bits fun k e => ?_
  rw [o.wbit hi] at e
  unfold waitB at e
  rw [Bool.or_eq_true] at e
  rcases e with e | e
  · rw [Bool.and_eq_true] at e
    obtain ⟨x, _, e⟩ := List.any_eq_true.1 e.1
    exact bits_lt (st_lt h x) e
  · cases e2 : catcher D.hs j with
    | none => rw [e2] at e; cases e
    | some y =>
      rw [e2] at e
      dsimp only at e
      rw [Bool.and_eq_true] at e
      exact bits_lt (st_lt h _) e.1
theorem upM_lt {D : Drw} (o : D.Ok) {ms : List Nat} (h : ∀ m ∈ ms, m < 2 ^ D.sz.toNat) {j : Nat} (hj : j < D.rows.length) : upM D ms j < 2 ^ D.sz.toNat := by
  have hi : D.rows[j]? = some D.rows[j] := List.getElem?_eq_getElem hj
  have e : upM D ms j = maskL D.rows[j].reads ||| waitM D ms j := by unfold upM; rw [hi]
  rw [e]
  refine Nat.or_lt_two_pow (lt_of_bits fun k e => ?_) (waitM_lt o h hj)
  rw [maskL_bit] at e
  obtain ⟨x, hx, e⟩ := List.any_eq_true.1 e
  have := reads_ok (o.row hi) x hx
  have e := of_decide_eq_true e
  unfold Sl at this; omega
theorem getD_set (ms : List Nat) (j k v : Nat) : (ms.set j v).getD k 0 = if j = k ∧ j < ms.length then v else ms.getD k 0 := by
  simp only [List.getD_eq_getElem?_getD, List.getElem?_set]
  by_cases h : j = k
  · subst h
    by_cases h2 : j < ms.length
    · simp [h2]
    · simp [h2]
  · simp [h]
theorem step_fine {D : Drw} (o : D.Ok) {ms : List Nat} (f : Fine D ms) {j : Nat} (hj : j < D.rows.length) : Fine D (step D ms j) ∧ Sub ms (step D ms j) := by
  have hs : Sub ms (step D ms j) := fun k b e => by
    unfold step
    rw [getD_set]
    split
    · rename_i c; obtain ⟨rfl, _⟩ := c; exact f.inc j hj b e
    · exact e
  refine ⟨⟨by unfold step; rw [List.length_set]; exact f.len, fun m hm => ?_, fun k hk b e => ?_⟩, hs⟩
  · rcases List.mem_or_eq_of_mem_set hm with h | h
    · exact f.lt m h
    · rw [h]; exact upM_lt o f.lt hj
  · unfold step at e
    rw [getD_set] at e
    split at e
    · rename_i c; obtain ⟨rfl, _⟩ := c; exact upM_mono o hs hj e
    · exact upM_mono o hs hk (f.inc k hk b e)
theorem Sub.refl (ms : List Nat) : Sub ms ms := fun _ _ e => e
theorem Sub.trans {a b c : List Nat} (h : Sub a b) (h' : Sub b c) : Sub a c := fun j k e => h' j k (h j k e)
theorem part_fine {D : Drw} (o : D.Ok) {ms : List Nat} (f : Fine D ms) : ∀ k, k ≤ D.rows.length → Fine D (part D ms k) ∧ Sub ms (part D ms k)
  | 0, _ => ⟨f, Sub.refl _⟩
  | k + 1, h => by
    obtain ⟨a, b⟩ := part_fine o f k (by omega)
    obtain ⟨c, d⟩ := step_fine o a (j := D.rows.length - 1 - k) (by omega)
    exact ⟨c, b.trans d⟩
theorem part_sub {D : Drw} (o : D.Ok) {ms : List Nat} (f : Fine D ms) : ∀ k d, k + d ≤ D.rows.length → Sub (part D ms k) (part D ms (k + d))
  | k, 0, _ => Sub.refl _
  | k, d + 1, h => (part_sub o f k d (by omega)).trans (step_fine o (part_fine o f (k + d) (by omega)).1 (j := D.rows.length - 1 - (k + d)) (by omega)).2
theorem iter_fine {D : Drw} (o : D.Ok) : ∀ k, Fine D (iter D k)
  | 0 => ⟨by simp [iter], fun m hm => by have := List.eq_of_mem_replicate (show m ∈ List.replicate D.rows.length 0 from hm); subst this; exact Nat.two_pow_pos _, fun j _ k e => by
      exfalso
      have : (iter D 0).getD j 0 = 0 := by
        unfold iter
        rw [List.getD_eq_getElem?_getD, List.getElem?_replicate]; split <;> rfl
      rw [this] at e; simp at e⟩
  | k + 1 => (part_fine o (iter_fine o k) _ (Nat.le_refl _)).1
/-! ### counts -/
theorem countP_le {p q : Nat → Bool} : ∀ {l : List Nat}, (∀ x ∈ l, p x = true → q x = true) → l.countP p ≤ l.countP q ∧ (l.countP p = l.countP q → ∀ x ∈ l, p x = q x)
  | [], _ => ⟨Nat.le_refl _, fun _ x h => by simp at h⟩
  | a :: l, h => by
    obtain ⟨i1, i2⟩ := countP_le (l := l) fun x hx => h x (by simp [hx])
    have ha := h a (by simp)
    rw [List.countP_cons, List.countP_cons]
    cases e1 : p a <;> cases e2 : q a
    · simp; exact ⟨i1, fun e => ⟨by rw [e1, e2], i2 e⟩⟩
    · simp; exact ⟨by omega, fun e => by omega⟩
    · rw [ha e1] at e2; cases e2
    · simp; exact ⟨i1, fun e => ⟨by rw [e1, e2], i2 e⟩⟩
theorem cnt_eq (m : Nat) : cnt m = (List.range 10).countP fun k => m.testBit k := by
  unfold cnt bits
  rw [List.length_map, List.countP_eq_length_filter]
theorem cnt_mono {m m' : Nat} (h : ∀ k, m.testBit k = true → m'.testBit k = true) : cnt m ≤ cnt m' := by
  rw [cnt_eq, cnt_eq]; exact (countP_le fun x _ => h x).1
theorem cnt_same {m m' : Nat} (h : ∀ k, m.testBit k = true → m'.testBit k = true) (l : m < 1024) (l' : m' < 1024) (e : cnt m = cnt m') : m = m' := by
  rw [cnt_eq, cnt_eq] at e
  have z := (countP_le (l := List.range 10) fun x _ => h x).2 e
  apply Nat.eq_of_testBit_eq
  intro k
  by_cases hk : k < 10
  · exact z k (List.mem_range.2 hk)
  · rw [no_bit (n := 10) l k (by omega), no_bit (n := 10) l' k (by omega)]
theorem total_mono : ∀ {a b : List Nat}, a.length = b.length → Sub a b → total a ≤ total b
  | [], [], _, _ => Nat.le_refl _
  | x :: a, y :: b, h, s => by
    have h1 := total_mono (a := a) (b := b) (by simpa using h) (fun j k e => by simpa using s (j + 1) k (by simpa using e))
    have h2 : cnt x ≤ cnt y := cnt_mono fun k e => by simpa using s 0 k (by simpa using e)
    unfold total at *
    simp only [List.map_cons, List.sum_cons]; omega
theorem total_same : ∀ {a b : List Nat}, a.length = b.length → Sub a b → (∀ m ∈ a, m < 1024) → (∀ m ∈ b, m < 1024) → total a = total b → a = b
  | [], [], _, _, _, _, _ => rfl
  | x :: a, y :: b, h, s, l, l', e => by
    have s1 : Sub a b := fun j k e => by simpa using s (j + 1) k (by simpa using e)
    have s2 : ∀ k, x.testBit k = true → y.testBit k = true := fun k e => by simpa using s 0 k (by simpa using e)
    have h1 := total_mono (a := a) (b := b) (by simpa using h) s1
    have h2 : cnt x ≤ cnt y := cnt_mono s2
    unfold total at e h1
    simp only [List.map_cons, List.sum_cons] at e
    have e1 := cnt_same s2 (l x (by simp)) (l' y (by simp)) (by omega)
    have e2 := total_same (a := a) (b := b) (by simpa using h) s1 (fun m hm => l m (by simp [hm])) (fun m hm => l' m (by simp [hm])) (by unfold total; omega)
    rw [e1, e2]
theorem cnt_le {D : Drw} (o : D.Ok) {m : Nat} (h : m < 2 ^ D.sz.toNat) : cnt m ≤ D.sz.toNat := by
  have l10 : D.sz.toNat ≤ 10 := by have := o.s2; omega
  have e := filter_two (f := fun k => m.testBit k) (no_bit h) (no_bit (n := 10) (m := m) (Nat.lt_of_lt_of_le h (Nat.pow_le_pow_right (by decide) l10)))
  unfold cnt bits
  rw [List.length_map, ← e]
  exact Nat.le_trans (List.length_filter_le _ _) (by simp)
theorem lt1024 {D : Drw} (o : D.Ok) {m : Nat} (h : m < 2 ^ D.sz.toNat) : m < 1024 := Nat.lt_of_lt_of_le h (show 2 ^ D.sz.toNat ≤ 2 ^ 10 from Nat.pow_le_pow_right (by decide) (by have := o.s2; omega))
theorem total_le {D : Drw} (o : D.Ok) {ms : List Nat} (f : Fine D ms) : total ms ≤ D.rows.length * D.sz.toNat := by
  rw [← f.len]
  have := f.lt
  clear f
  induction ms with
  | nil => simp [total]
  | cons m ms ih =>
    have h1 := ih fun x hx => this x (by simp [hx])
    have h2 := cnt_le o (this m (by simp))
    unfold total at *
    rw [List.map_cons, List.sum_cons, List.length_cons, Nat.succ_mul]; omega
theorem round_fix {D : Drw} (o : D.Ok) {ms : List Nat} (f : Fine D ms) (e : total (round D ms) = total ms) : round D ms = ms := by
  obtain ⟨a, b⟩ := part_fine o f D.rows.length (Nat.le_refl _)
  exact (total_same (by rw [f.len]; exact a.len.symm) b (fun m hm => lt1024 o (f.lt m hm)) (fun m hm => lt1024 o (a.lt m hm)) e.symm).symm
theorem iter_stay {D : Drw} {k : Nat} (h : round D (iter D k) = iter D k) : ∀ d, iter D (k + d) = iter D k
  | 0 => rfl
  | d + 1 => by
    show round D (iter D (k + d)) = _
    rw [iter_stay h d, h]
theorem total_grow {D : Drw} (o : D.Ok) : ∀ k, (∀ j, j < k → round D (iter D j) ≠ iter D j) → k ≤ total (iter D k)
  | 0, _ => Nat.zero_le _
  | k + 1, h => by
    have h1 := total_grow o k fun j hj => h j (by omega)
    have f := iter_fine o k
    obtain ⟨a, b⟩ := part_fine o f D.rows.length (Nat.le_refl _)
    have h2 : total (iter D k) ≤ total (iter D (k + 1)) := total_mono (by rw [f.len]; exact a.len.symm) b
    have h3 : total (iter D (k + 1)) ≠ total (iter D k) := fun e => h k (by omega) (round_fix o f e)
    omega
theorem fix_sol {D : Drw} (o : D.Ok) {k : Nat} (h : round D (iter D k) = iter D k) : iter D k = solM D := by
  rcases Nat.le_total k 301 with l | l
  · have e : 301 = k + (301 - k) := by omega
    unfold solM
    rw [e, iter_stay h]
  · -- some j ≤ 300 is fixed
    by_cases q : ∃ j, j < 301 ∧ round D (iter D j) = iter D j
    · obtain ⟨j, hj, e⟩ := q
      have e1 : k = j + (k - j) := by omega
      have e2 : 301 = j + (301 - j) := by omega
      unfold solM
      rw [e1, iter_stay e, e2, iter_stay e]
    · exfalso
      have g := total_grow o 301 fun j hj e => q ⟨j, hj, e⟩
      have t := total_le o (iter_fine o 301)
      have b1 := o.r2
      have b2 := o.s2
      have : D.rows.length * D.sz.toNat ≤ 30 * 10 := Nat.mul_le_mul b1 (by omega)
      omega
theorem sol_fine {D : Drw} (o : D.Ok) : Fine D (solM D) := iter_fine o 301
/-- many rounds are enough -/
theorem iter_end {D : Drw} (o : D.Ok) {k : Nat} (h : D.rows.length * D.sz.toNat < k) : iter D k = solM D := by
  by_cases q : ∃ j, j < k ∧ round D (iter D j) = iter D j
  · obtain ⟨j, hj, e⟩ := q
    have e1 : k = j + (k - j) := by omega
    rw [e1, iter_stay e, fix_sol o e]
  · exfalso
    have g := total_grow o k fun j hj e => q ⟨j, hj, e⟩
    have t := total_le o (iter_fine o k)
    omega
end CM
namespace LW
open PySem PySem.Spec PyProof.Rows L2 Rf

def top (i : Nat) : Stmt := PySem.Challenge.pw_reforge_k08_live_slots.main.body.getD i (.Pass ⟨0, 0, 0, 0⟩)
abbrev s_handler_at : Stmt := top 4
abbrev s_slots_read : Stmt := top 5
abbrev s_target : Stmt := top 6
abbrev s_following : Stmt := top 7
abbrev s_live : Stmt := top 8
abbrev s_waiting : Stmt := top 9
abbrev s_slots_in : Stmt := top 10
abbrev s_mask_of : Stmt := top 11
abbrev s_without_slot : Stmt := top 12
abbrev s_live_masks : Stmt := top 13
abbrev s_solved_masks : Stmt := top 14
abbrev s_waiting_mask : Stmt := top 15
abbrev s_Code_init : Stmt := inClass (top 17) 0
abbrev s_law_box : Stmt := top 19
abbrev s_law_draw : Stmt := top 20
abbrev s_law_reserved : Stmt := top 21
abbrev s_law_word : Stmt := top 22
abbrev s_law_value : Stmt := top 23
abbrev s_law_row : Stmt := top 24
abbrev s_law_words : Stmt := top 25
abbrev s_law_drawn : Stmt := top 26
abbrev s_law_read : Stmt := top 27
abbrev s_law_written : Stmt := top 28
abbrev s_law_later : Stmt := top 29
abbrev s_law_catcher : Stmt := top 30
abbrev s_law_waits : Stmt := top 31
abbrev s_law_alive : Stmt := top 32
abbrev s_law_same : Stmt := top 33
abbrev s_law_live_agrees : Stmt := top 34
abbrev s_law_waiting_agrees : Stmt := top 35
abbrev s_law : Stmt := top 36
abbrev n_handler_at : List Str := ["code", "pc", "handler"]
theorem sc_handler_at : FnScope n_handler_at ["code", "pc"] (defScope s_handler_at) := ⟨rfl, rfl, rfl, by decide +kernel, rfl, by decide +kernel, by decide +kernel⟩
abbrev n_slots_read : List Str := ["row", "found", "index"]
theorem sc_slots_read : FnScope n_slots_read ["row"] (defScope s_slots_read) := ⟨rfl, rfl, rfl, by decide +kernel, rfl, by decide +kernel, by decide +kernel⟩
abbrev n_target : List Str := ["row", "index"]
theorem sc_target : FnScope n_target ["row"] (defScope s_target) := ⟨rfl, rfl, rfl, by decide +kernel, rfl, by decide +kernel, by decide +kernel⟩
abbrev n_following : List Str := ["code", "pc", "row"]
theorem sc_following : FnScope n_following ["code", "pc"] (defScope s_following) := ⟨rfl, rfl, rfl, by decide +kernel, rfl, by decide +kernel, by decide +kernel⟩
abbrev n_live : List Str := ["code", "mask"]
theorem sc_live : FnScope n_live ["code"] (defScope s_live) := ⟨rfl, rfl, rfl, by decide +kernel, rfl, by decide +kernel, by decide +kernel⟩
abbrev n_waiting : List Str := ["code", "pc"]
theorem sc_waiting : FnScope n_waiting ["code", "pc"] (defScope s_waiting) := ⟨rfl, rfl, rfl, by decide +kernel, rfl, by decide +kernel, by decide +kernel⟩
abbrev n_slots_in : List Str := ["mask", "slot"]
theorem sc_slots_in : FnScope n_slots_in ["mask"] (defScope s_slots_in) := ⟨rfl, rfl, rfl, by decide +kernel, rfl, by decide +kernel, by decide +kernel⟩
abbrev n_mask_of : List Str := ["slots", "mask", "slot"]
theorem sc_mask_of : FnScope n_mask_of ["slots"] (defScope s_mask_of) := ⟨rfl, rfl, rfl, by decide +kernel, rfl, by decide +kernel, by decide +kernel⟩
abbrev n_without_slot : List Str := ["mask", "slot"]
theorem sc_without_slot : FnScope n_without_slot ["mask", "slot"] (defScope s_without_slot) := ⟨rfl, rfl, rfl, by decide +kernel, rfl, by decide +kernel, by decide +kernel⟩
abbrev n_live_masks : List Str := ["code", "known", "masks"]
theorem sc_live_masks : FnScope n_live_masks ["code"] (defScope s_live_masks) := ⟨rfl, rfl, rfl, by decide +kernel, rfl, by decide +kernel, by decide +kernel⟩
abbrev n_solved_masks : List Str := ["code", "masks", "reading", "is_growing", "pc", "mask", "row"]
theorem sc_solved_masks : FnScope n_solved_masks ["code"] (defScope s_solved_masks) := ⟨rfl, rfl, rfl, by decide +kernel, rfl, by decide +kernel, by decide +kernel⟩
abbrev n_waiting_mask : List Str := ["code", "masks", "pc", "found", "place", "written", "handler"]
theorem sc_waiting_mask : FnScope n_waiting_mask ["code", "masks", "pc"] (defScope s_waiting_mask) := ⟨rfl, rfl, rfl, by decide +kernel, rfl, by decide +kernel, by decide +kernel⟩
abbrev n_Code_init : List Str := ["self", "name", "params", "size", "rows", "handlers"]
theorem sc_Code_init : FnScope n_Code_init ["self", "name", "params", "size", "rows", "handlers"] (defScope s_Code_init) := ⟨rfl, rfl, rfl, by decide +kernel, rfl, by decide +kernel, by decide +kernel⟩
abbrev n_law_box : List Str := ["script", "cells", "lesser", "cell"]
theorem sc_law_box : FnScope n_law_box ["script"] (defScope s_law_box) := ⟨rfl, rfl, rfl, by decide +kernel, rfl, by decide +kernel, by decide +kernel⟩
abbrev n_law_draw : List Str := ["box", "many", "great", "cell", "lesser", "fresh"]
theorem sc_law_draw : FnScope n_law_draw ["box", "many"] (defScope s_law_draw) := ⟨rfl, rfl, rfl, by decide +kernel, rfl, by decide +kernel, by decide +kernel⟩
abbrev n_law_reserved : List Str := ["words"]
theorem sc_law_reserved : FnScope n_law_reserved [] (defScope s_law_reserved) := ⟨rfl, rfl, rfl, by decide +kernel, rfl, by decide +kernel, by decide +kernel⟩
abbrev n_law_word : List Str := ["box", "known", "letters", "pick", "size", "word", "elder", "k"]
theorem sc_law_word : FnScope n_law_word ["box", "known"] (defScope s_law_word) := ⟨rfl, rfl, rfl, by decide +kernel, rfl, by decide +kernel, by decide +kernel⟩
abbrev n_law_value : List Str := ["box", "known", "pick"]
theorem sc_law_value : FnScope n_law_value ["box", "known"] (defScope s_law_value) := ⟨rfl, rfl, rfl, by decide +kernel, rfl, by decide +kernel, by decide +kernel⟩
abbrev n_law_row : List Str := ["box", "word", "many", "size", "known", "a", "b", "c", "name", "given", "names", "k"]
theorem sc_law_row : FnScope n_law_row ["box", "word", "many", "size", "known"] (defScope s_law_row) := ⟨rfl, rfl, rfl, by decide +kernel, rfl, by decide +kernel, by decide +kernel⟩
abbrev n_law_words : List Str := ["words"]
theorem sc_law_words : FnScope n_law_words [] (defScope s_law_words) := ⟨rfl, rfl, rfl, by decide +kernel, rfl, by decide +kernel, by decide +kernel⟩
abbrev n_law_drawn : List Str := ["box", "known", "words", "size", "many", "k", "rows", "handlers", "first", "last"]
theorem sc_law_drawn : FnScope n_law_drawn ["box", "known"] (defScope s_law_drawn) := ⟨rfl, rfl, rfl, by decide +kernel, rfl, by decide +kernel, by decide +kernel⟩
abbrev n_law_read : List Str := ["row", "word", "places", "more", "place"]
theorem sc_law_read : FnScope n_law_read ["row"] (defScope s_law_read) := ⟨rfl, rfl, rfl, by decide +kernel, rfl, by decide +kernel, by decide +kernel⟩
abbrev n_law_written : List Str := ["row", "words"]
theorem sc_law_written : FnScope n_law_written ["row"] (defScope s_law_written) := ⟨rfl, rfl, rfl, by decide +kernel, rfl, by decide +kernel, by decide +kernel⟩
abbrev n_law_later : List Str := ["rows", "at", "word"]
theorem sc_law_later : FnScope n_law_later ["rows", "at"] (defScope s_law_later) := ⟨rfl, rfl, rfl, by decide +kernel, rfl, by decide +kernel, by decide +kernel⟩
abbrev n_law_catcher : List Str := ["handlers", "at", "one"]
theorem sc_law_catcher : FnScope n_law_catcher ["handlers", "at"] (defScope s_law_catcher) := ⟨rfl, rfl, rfl, by decide +kernel, rfl, by decide +kernel, by decide +kernel⟩
abbrev n_law_waits : List Str := ["alive", "drawn", "at", "later", "place", "thrown", "one", "written", "slot"]
theorem sc_law_waits : FnScope n_law_waits ["alive", "drawn", "at"] (defScope s_law_waits) := ⟨rfl, rfl, rfl, by decide +kernel, rfl, by decide +kernel, by decide +kernel⟩
abbrev n_law_alive : List Str := ["drawn", "rows", "many", "alive", "turn", "before", "k", "at", "waits", "reads", "row", "slots", "slot"]
theorem sc_law_alive : FnScope n_law_alive ["drawn"] (defScope s_law_alive) := ⟨rfl, rfl, rfl, by decide +kernel, rfl, by decide +kernel, by decide +kernel⟩
abbrev n_law_same : List Str := ["value", "due", "k"]
theorem sc_law_same : FnScope n_law_same ["value", "due"] (defScope s_law_same) := ⟨rfl, rfl, rfl, by decide +kernel, rfl, by decide +kernel, by decide +kernel⟩
abbrev n_law_live_agrees : List Str := ["code", "alive", "slots", "row"]
theorem sc_law_live_agrees : FnScope n_law_live_agrees ["code", "alive"] (defScope s_law_live_agrees) := ⟨rfl, rfl, rfl, by decide +kernel, rfl, by decide +kernel, by decide +kernel⟩
abbrev n_law_waiting_agrees : List Str := ["code", "drawn", "alive", "asked", "at", "slots"]
theorem sc_law_waiting_agrees : FnScope n_law_waiting_agrees ["code", "drawn", "alive", "asked"] (defScope s_law_waiting_agrees) := ⟨rfl, rfl, rfl, by decide +kernel, rfl, by decide +kernel, by decide +kernel⟩
abbrev n_law : List Str := ["script", "box", "known", "pair", "codes", "solved", "turn", "k", "asked", "way", "one"]
theorem sc_law : FnScope n_law ["script"] (defScope s_law) := ⟨rfl, rfl, rfl, by decide +kernel, rfl, by decide +kernel, by decide +kernel⟩
def wd_LISTS : List (Str × Option Int) := [("call", some 3), ("callv", some 3), ("method", some 4), ("spawn", some 2), ("const", none), ("move", none), ("op", none), ("not", none), ("jump", none), ("branch", none), ("getg", none), ("setg", none), ("new", none), ("get", none), ("put", none), ("drop", none), ("array", none), ("at", none), ("setat", none), ("len", none), ("return", none), ("say", none), ("fail", none), ("load", none), ("pause", none)]
def wd_READS : List (Str × List Int) := [("const", []), ("move", [2]), ("op", [3, 4]), ("not", [2]), ("jump", []), ("branch", [1]), ("getg", []), ("setg", [2]), ("new", []), ("get", [2]), ("put", [1, 3]), ("drop", [1]), ("array", [2]), ("at", [2, 3]), ("setat", [1, 2, 3]), ("len", [2]), ("call", []), ("callv", [2]), ("method", [2]), ("return", [1]), ("say", [1]), ("fail", [1]), ("load", [1]), ("spawn", []), ("pause", [])]
def wd_WRITES : List (Str × Option Int) := [("const", some 1), ("move", some 1), ("op", some 2), ("not", some 1), ("getg", some 1), ("new", some 1), ("get", some 1), ("array", some 1), ("at", some 1), ("len", some 1), ("call", some 1), ("callv", some 1), ("method", some 1), ("jump", none), ("branch", none), ("setg", none), ("put", none), ("drop", none), ("setat", none), ("return", none), ("say", none), ("fail", none), ("load", none), ("spawn", none), ("pause", none)]
structure Adr where
  a_handler_at : Addr
  d_handler_at : FuncData
  a_slots_read : Addr
  d_slots_read : FuncData
  a_target : Addr
  d_target : FuncData
  a_following : Addr
  d_following : FuncData
  a_live : Addr
  d_live : FuncData
  a_waiting : Addr
  d_waiting : FuncData
  a_slots_in : Addr
  d_slots_in : FuncData
  a_mask_of : Addr
  d_mask_of : FuncData
  a_without_slot : Addr
  d_without_slot : FuncData
  a_live_masks : Addr
  d_live_masks : FuncData
  a_solved_masks : Addr
  d_solved_masks : FuncData
  a_waiting_mask : Addr
  d_waiting_mask : FuncData
  a_Code_init : Addr
  d_Code_init : FuncData
  a_law_box : Addr
  d_law_box : FuncData
  a_law_draw : Addr
  d_law_draw : FuncData
  a_law_reserved : Addr
  d_law_reserved : FuncData
  a_law_word : Addr
  d_law_word : FuncData
  a_law_value : Addr
  d_law_value : FuncData
  a_law_row : Addr
  d_law_row : FuncData
  a_law_words : Addr
  d_law_words : FuncData
  a_law_drawn : Addr
  d_law_drawn : FuncData
  a_law_read : Addr
  d_law_read : FuncData
  a_law_written : Addr
  d_law_written : FuncData
  a_law_later : Addr
  d_law_later : FuncData
  a_law_catcher : Addr
  d_law_catcher : FuncData
  a_law_waits : Addr
  d_law_waits : FuncData
  a_law_alive : Addr
  d_law_alive : FuncData
  a_law_same : Addr
  d_law_same : FuncData
  a_law_live_agrees : Addr
  d_law_live_agrees : FuncData
  a_law_waiting_agrees : Addr
  d_law_waiting_agrees : FuncData
  a_law : Addr
  d_law : FuncData
  C_Code : Addr
  c_LISTS : Addr
  c_READS : Addr
  c_WRITES : Addr
/-- what the top has written -/
structure Txt (K : PySem.W.Frag) (w : World) (mg : Str → Option Value) (A : Adr) : Prop where
  g_handler_at : mg "handler_at" = some (.ref A.a_handler_at)
  F_handler_at : Fun K "handler_at" "handler_at" s_handler_at A.a_handler_at A.d_handler_at
  b_handler_at : Binds K A.d_handler_at ["code", "pc"] []
  g_slots_read : mg "slots_read" = some (.ref A.a_slots_read)
  F_slots_read : Fun K "slots_read" "slots_read" s_slots_read A.a_slots_read A.d_slots_read
  b_slots_read : Binds K A.d_slots_read ["row"] []
  g_target : mg "target" = some (.ref A.a_target)
  F_target : Fun K "target" "target" s_target A.a_target A.d_target
  b_target : Binds K A.d_target ["row"] []
  g_following : mg "following" = some (.ref A.a_following)
  F_following : Fun K "following" "following" s_following A.a_following A.d_following
  b_following : Binds K A.d_following ["code", "pc"] []
  g_live : mg "live" = some (.ref A.a_live)
  F_live : Fun K "live" "live" s_live A.a_live A.d_live
  b_live : Binds K A.d_live ["code"] []
  g_waiting : mg "waiting" = some (.ref A.a_waiting)
  F_waiting : Fun K "waiting" "waiting" s_waiting A.a_waiting A.d_waiting
  b_waiting : Binds K A.d_waiting ["code", "pc"] []
  g_slots_in : mg "slots_in" = some (.ref A.a_slots_in)
  F_slots_in : Fun K "slots_in" "slots_in" s_slots_in A.a_slots_in A.d_slots_in
  b_slots_in : Binds K A.d_slots_in ["mask"] []
  g_mask_of : mg "mask_of" = some (.ref A.a_mask_of)
  F_mask_of : Fun K "mask_of" "mask_of" s_mask_of A.a_mask_of A.d_mask_of
  b_mask_of : Binds K A.d_mask_of ["slots"] []
  g_without_slot : mg "without_slot" = some (.ref A.a_without_slot)
  F_without_slot : Fun K "without_slot" "without_slot" s_without_slot A.a_without_slot A.d_without_slot
  b_without_slot : Binds K A.d_without_slot ["mask", "slot"] []
  g_live_masks : mg "live_masks" = some (.ref A.a_live_masks)
  F_live_masks : Fun K "live_masks" "live_masks" s_live_masks A.a_live_masks A.d_live_masks
  b_live_masks : Binds K A.d_live_masks ["code"] []
  g_solved_masks : mg "solved_masks" = some (.ref A.a_solved_masks)
  F_solved_masks : Fun K "solved_masks" "solved_masks" s_solved_masks A.a_solved_masks A.d_solved_masks
  b_solved_masks : Binds K A.d_solved_masks ["code"] []
  g_waiting_mask : mg "waiting_mask" = some (.ref A.a_waiting_mask)
  F_waiting_mask : Fun K "waiting_mask" "waiting_mask" s_waiting_mask A.a_waiting_mask A.d_waiting_mask
  b_waiting_mask : Binds K A.d_waiting_mask ["code", "masks", "pc"] []
  F_Code_init : Fun K "__init__" "Code.__init__" s_Code_init A.a_Code_init A.d_Code_init
  b_Code_init : Binds K A.d_Code_init ["self", "name", "params", "size", "rows", "handlers"] []
  g_law_box : mg "_law_box" = some (.ref A.a_law_box)
  F_law_box : Fun K "_law_box" "_law_box" s_law_box A.a_law_box A.d_law_box
  b_law_box : Binds K A.d_law_box ["script"] []
  g_law_draw : mg "_law_draw" = some (.ref A.a_law_draw)
  F_law_draw : Fun K "_law_draw" "_law_draw" s_law_draw A.a_law_draw A.d_law_draw
  b_law_draw : Binds K A.d_law_draw ["box", "many"] []
  g_law_reserved : mg "_law_reserved" = some (.ref A.a_law_reserved)
  F_law_reserved : Fun K "_law_reserved" "_law_reserved" s_law_reserved A.a_law_reserved A.d_law_reserved
  b_law_reserved : Binds K A.d_law_reserved [] []
  g_law_word : mg "_law_word" = some (.ref A.a_law_word)
  F_law_word : Fun K "_law_word" "_law_word" s_law_word A.a_law_word A.d_law_word
  b_law_word : Binds K A.d_law_word ["box", "known"] []
  g_law_value : mg "_law_value" = some (.ref A.a_law_value)
  F_law_value : Fun K "_law_value" "_law_value" s_law_value A.a_law_value A.d_law_value
  b_law_value : Binds K A.d_law_value ["box", "known"] []
  g_law_row : mg "_law_row" = some (.ref A.a_law_row)
  F_law_row : Fun K "_law_row" "_law_row" s_law_row A.a_law_row A.d_law_row
  b_law_row : Binds K A.d_law_row ["box", "word", "many", "size", "known"] []
  g_law_words : mg "_law_words" = some (.ref A.a_law_words)
  F_law_words : Fun K "_law_words" "_law_words" s_law_words A.a_law_words A.d_law_words
  b_law_words : Binds K A.d_law_words [] []
  g_law_drawn : mg "_law_drawn" = some (.ref A.a_law_drawn)
  F_law_drawn : Fun K "_law_drawn" "_law_drawn" s_law_drawn A.a_law_drawn A.d_law_drawn
  b_law_drawn : Binds K A.d_law_drawn ["box", "known"] []
  g_law_read : mg "_law_read" = some (.ref A.a_law_read)
  F_law_read : Fun K "_law_read" "_law_read" s_law_read A.a_law_read A.d_law_read
  b_law_read : Binds K A.d_law_read ["row"] []
  g_law_written : mg "_law_written" = some (.ref A.a_law_written)
  F_law_written : Fun K "_law_written" "_law_written" s_law_written A.a_law_written A.d_law_written
  b_law_written : Binds K A.d_law_written ["row"] []
  g_law_later : mg "_law_later" = some (.ref A.a_law_later)
  F_law_later : Fun K "_law_later" "_law_later" s_law_later A.a_law_later A.d_law_later
  b_law_later : Binds K A.d_law_later ["rows", "at"] []
  g_law_catcher : mg "_law_catcher" = some (.ref A.a_law_catcher)
  F_law_catcher : Fun K "_law_catcher" "_law_catcher" s_law_catcher A.a_law_catcher A.d_law_catcher
  b_law_catcher : Binds K A.d_law_catcher ["handlers", "at"] []
  g_law_waits : mg "_law_waits" = some (.ref A.a_law_waits)
  F_law_waits : Fun K "_law_waits" "_law_waits" s_law_waits A.a_law_waits A.d_law_waits
  b_law_waits : Binds K A.d_law_waits ["alive", "drawn", "at"] []
  g_law_alive : mg "_law_alive" = some (.ref A.a_law_alive)
  F_law_alive : Fun K "_law_alive" "_law_alive" s_law_alive A.a_law_alive A.d_law_alive
  b_law_alive : Binds K A.d_law_alive ["drawn"] []
  g_law_same : mg "_law_same" = some (.ref A.a_law_same)
  F_law_same : Fun K "_law_same" "_law_same" s_law_same A.a_law_same A.d_law_same
  b_law_same : Binds K A.d_law_same ["value", "due"] []
  g_law_live_agrees : mg "_law_live_agrees" = some (.ref A.a_law_live_agrees)
  F_law_live_agrees : Fun K "_law_live_agrees" "_law_live_agrees" s_law_live_agrees A.a_law_live_agrees A.d_law_live_agrees
  b_law_live_agrees : Binds K A.d_law_live_agrees ["code", "alive"] []
  g_law_waiting_agrees : mg "_law_waiting_agrees" = some (.ref A.a_law_waiting_agrees)
  F_law_waiting_agrees : Fun K "_law_waiting_agrees" "_law_waiting_agrees" s_law_waiting_agrees A.a_law_waiting_agrees A.d_law_waiting_agrees
  b_law_waiting_agrees : Binds K A.d_law_waiting_agrees ["code", "drawn", "alive", "asked"] []
  g_law : mg "law" = some (.ref A.a_law)
  F_law : Fun K "law" "law" s_law A.a_law A.d_law
  b_law : Binds K A.d_law ["script"] []
  gc_Code : mg "Code" = some (.ref A.C_Code)
  q_Code : Cls K A.C_Code
  m_Code : Mk K A.C_Code A.a_Code_init
  na_Code_name : NoAttr K A.C_Code "name"
  na_Code_params : NoAttr K A.C_Code "params"
  na_Code_size : NoAttr K A.C_Code "size"
  na_Code_rows : NoAttr K A.C_Code "rows"
  na_Code_handlers : NoAttr K A.C_Code "handlers"
  na_Code_known_live : NoAttr K A.C_Code "known_live"
  n_all : mg "all" = none
  n_bool : mg "bool" = none
  n_int : mg "int" = none
  n_isinstance : mg "isinstance" = none
  n_len : mg "len" = none
  n_list : mg "list" = none
  n_range : mg "range" = none
  n_reversed : mg "reversed" = none
  n_sorted : mg "sorted" = none
  n_str : mg "str" = none
  n_sum : mg "sum" = none
  n_tuple : mg "tuple" = none
  g_LISTS : mg "LISTS" = some (.ref A.c_LISTS)
  w_LISTS : WDict K w A.c_LISTS
  x_LISTS : ∀ p ∈ wd_LISTS, WAt K A.c_LISTS p.1 (p.2.map V.int)
  g_READS : mg "READS" = some (.ref A.c_READS)
  w_READS : WDict K w A.c_READS
  x_READS : ∀ p ∈ wd_READS, ∃ t, WAt K A.c_READS p.1 (some (.ref t)) ∧ ∀ H, SqT K H t (p.2.map V.int)
  g_WRITES : mg "WRITES" = some (.ref A.c_WRITES)
  w_WRITES : WDict K w A.c_WRITES
  x_WRITES : ∀ p ∈ wd_WRITES, WAt K A.c_WRITES p.1 (p.2.map V.int)
end LW
namespace LW
open PySem PySem.Spec PyProof.Rows L2 Rf CM
open PySem.PyData (strOk)
/-! ### data on the heap that no store reaches -/
def noL : PyData → Bool
  | .list _ => false
  | .tuple xs => noLA xs
  | _ => true
where noLA : List PyData → Bool
  | [] => true
  | x :: xs => noL x && noLA xs
def NoT (H : Hp) (S : List Addr) : Prop := ∀ a ∈ S, ∀ xs, ¬ Rd H a (.tup xs)
theorem noT_nil {H : Hp} : NoT H [] := fun a h => by simp at h
theorem noT_lst {H : Hp} {a : Addr} {S : List Addr} {l : List V} (h : H a = some (.lst l)) (r : NoT H S) : NoT H (a :: S) := fun b m xs q => by
  rcases List.mem_cons.1 m with e | m
  · subst e
    rcases q with q | ⟨o, q⟩ <;> · rw [h] at q; cases q
  · exact r b m xs q
theorem noT_ins {H : Hp} {a C dx : Addr} {S : List Addr} {l : List (Str × V)} (h : H a = some (.ins C dx l)) (r : NoT H S) : NoT H (a :: S) := fun b m xs q => by
  rcases List.mem_cons.1 m with e | m
  · subst e
    rcases q with q | ⟨o, q⟩ <;> · rw [h] at q; cases q
  · exact r b m xs q
theorem sqT_keep {K : PySem.W.Frag} {H H' : Hp} {S : List Addr} {a : Addr} {xs : List V} (k : Keep S H H') (n : NoT H S) (h : SqT K H a xs) : SqT K H' a xs := by
  rcases h with h | h
  · exact Or.inl (k.rd (fun m => n a m xs h) h)
  · exact Or.inr h
mutual
theorem dpT_keep {K : PySem.W.Frag} {H H' : Hp} {S : List Addr} (k : Keep S H H') (n : NoT H S) : ∀ (d : PyData) (v : V), noL d = true → Dp K H v d → Dp K H' v d
  | .none, _, _, h => by cases h; exact .non
  | .bool b, _, _, h => by cases h; exact .bl b
  | .int i, _, _, h => by cases h; exact .int i
  | .str x, _, _, h => by cases h; exact .str x
  | .list ds, _, e, h => by simp [noL] at e
  | .tuple ds, _, e, h => by
    cases h with
    | tup s a => exact .tup (sqT_keep k n s) (dpTA_keep k n ds _ (by simpa [noL] using e) a)
  | .dict _, _, _, h => by cases h
theorem dpTA_keep {K : PySem.W.Frag} {H H' : Hp} {S : List Addr} (k : Keep S H H') (n : NoT H S) : ∀ (ds : List PyData) (vs : List V), noL.noLA ds = true → DpAll K H vs ds → DpAll K H' vs ds
  | [], _, _, h => by cases h; exact .nil
  | d :: ds, _, e, h => by
    simp only [noL.noLA, Bool.and_eq_true] at e
    cases h with
    | cons a b => exact .cons (dpT_keep k n d _ e.1 a) (dpTA_keep k n ds _ e.2 b)
end
mutual
theorem dp_keep {K : PySem.W.Frag} {H H' : Hp} (k : Keep [] H H') : ∀ (d : PyData) (v : V), Dp K H v d → Dp K H' v d
  | .none, _, h => by cases h; exact .non
  | .bool b, _, h => by cases h; exact .bl b
  | .int i, _, h => by cases h; exact .int i
  | .str x, _, h => by cases h; exact .str x
  | .list ds, _, h => by
    cases h with
    | lst s a => exact .lst (k.seq (by simp) s) (dpA_keep k ds _ a)
  | .tuple ds, _, h => by
    cases h with
    | tup s a => exact .tup (k.tup (by simp) s) (dpA_keep k ds _ a)
  | .dict _, _, h => by cases h
theorem dpA_keep {K : PySem.W.Frag} {H H' : Hp} (k : Keep [] H H') : ∀ (ds : List PyData) (vs : List V), DpAll K H vs ds → DpAll K H' vs ds
  | [], _, h => by cases h; exact .nil
  | d :: ds, _, h => by
    cases h with
    | cons a b => exact .cons (dp_keep k d _ a) (dpA_keep k ds _ b)
end
/-! ### the box, the words -/
def Box (H : Hp) (p g l : Addr) : Prop := ∃ (gs ls : List Int) (a b : Int), H p = some (.lst [.ref g, .ref l, .int a, .int b]) ∧ H g = some (.lst (gs.map V.int)) ∧ H l = some (.lst (ls.map V.int)) ∧
  g ≠ l ∧ gs.length ≤ 63 ∧ 1 ≤ ls.length ∧ ls.length ≤ 64
def Known (H : Hp) (k : Addr) (ws : List Str) : Prop := H k = some (.lst (ws.map V.str)) ∧ (∀ w ∈ ws, WordOk w) ∧ ws.length ≤ 12
structure Pot (H : Hp) (p g l k : Addr) : Prop where
  box : Box H p g l
  kn : ∃ ws, Known H k ws
  np : k ≠ p
  ng : k ≠ g
  nl : k ≠ l
/-! ### rows, handlers -/
def RowAt (K : PySem.W.Frag) (H : Hp) (a : Addr) (i : Ins) : Prop := Dp K H (.ref a) (.tuple i.data) ∧ noL (.tuple i.data) = true
def HandAt (K : PySem.W.Frag) (H : Hp) (a : Addr) (h : Hd) : Prop := SqT K H a [.int h.1, .int h.2.1, .int h.2.2.1, .int h.2.2.2]
/-- lists of rows, of handlers -/
def RowsAt (K : PySem.W.Frag) (H : Hp) (l : Addr) (rows : List Ins) : Prop := ∃ as : List Addr, H l = some (.lst (as.map V.ref)) ∧ Paired (RowAt K H) as rows
def HandsAt (K : PySem.W.Frag) (H : Hp) (l : Addr) (hs : List Hd) : Prop := ∃ as : List Addr, H l = some (.lst (as.map V.ref)) ∧ Paired (HandAt K H) as hs
structure DrawnAt (K : PySem.W.Frag) (H : Hp) (q lr lh : Addr) (D : Drw) : Prop where
  at_ : H q = some (.lst [.str D.nm, .int D.pa, .int D.sz, .ref lr, .ref lh])
  rows : RowsAt K H lr D.rows
  hs : HandsAt K H lh D.hs
def NoCode (K : PySem.W.Frag) (C : Addr) : Prop := NoAttr K C "name" ∧ NoAttr K C "params" ∧ NoAttr K C "size" ∧ NoAttr K C "rows" ∧ NoAttr K C "handlers" ∧ NoAttr K C "known_live"
def flds (nm : Str) (pa sz : Int) (lr lh : Addr) (kl : V) : List (Str × V) := [("name", .str nm), ("params", .int pa), ("size", .int sz), ("rows", .ref lr), ("handlers", .ref lh), ("known_live", kl)]
structure CodeAt (K : PySem.W.Frag) (H : Hp) (p lr lh : Addr) (kl : V) (D : Drw) : Prop where
  at_ : ∃ C dx, Cls K C ∧ NoCode K C ∧ H p = some (.ins C dx (flds D.nm D.pa D.sz lr lh kl))
  rows : RowsAt K H lr D.rows
  hs : HandsAt K H lh D.hs
def CatV (K : PySem.W.Frag) (H : Hp) (o : Option Hd) (v : V) : Prop := match o with
  | none => v = .non
  | some h => ∃ a, v = .ref a ∧ HandAt K H a h
/-! ### the promises -/
def sp_law_box (K : PySem.W.Frag) : Sp := fun vs H Q E => ∃ (a : Addr) (ns : List Int), vs = [.ref a] ∧ SqL K H a (ns.map V.int) ∧ ns.length ≤ 63 ∧
  ∀ (H' : Hp) (p g l : Addr), Keep [] H H' → H p = none → H g = none → H l = none → Box H' p g l → Q (.ref p) H'
def sp_law_draw (K : PySem.W.Frag) : Sp := fun vs H Q E => ∃ (p g l : Addr) (n : Int), vs = [.ref p, .int n] ∧ Box H p g l ∧ 1 ≤ n ∧ n < 1152921504606846976 ∧
  ∀ (r : Int) (H' : Hp), 0 ≤ r → r < n → Keep [p, g] H H' → Box H' p g l → Q (.int r) H'
def sp_law_reserved (K : PySem.W.Frag) : Sp := fun vs H Q E => ∃ (u : Unit), vs = [] ∧ ∀ (H' : Hp) (l : Addr) (ws : List Str), Keep [] H H' → H l = none → H' l = some (.lst (ws.map V.str)) → ws.length = 21 → (∀ w ∈ ws, strOk w = true ∧ 1 ≤ w.length ∧ w.length ≤ 6) → Q (.ref l) H'
def sp_law_word (K : PySem.W.Frag) : Sp := fun vs H Q E => ∃ (p g l k : Addr), vs = [.ref p, .ref k] ∧ Pot H p g l k ∧
  ∀ (w : Str) (H' : Hp), WordOk w → Keep [p, g, k] H H' → Pot H' p g l k → Q (.str w) H'
def sp_law_value (K : PySem.W.Frag) : Sp := fun vs H Q E => ∃ (p g l k : Addr), vs = [.ref p, .ref k] ∧ Pot H p g l k ∧
  ∀ (v : V) (d : PyData) (H' : Hp), Dp K H' v d → noL d = true → gd d = true → d.depth ≤ 1 → Keep [p, g, k] H H' → Pot H' p g l k → Q v H'
def sp_law_row (K : PySem.W.Frag) : Sp := fun vs H Q E => ∃ (p g l k : Addr) (word : Str) (many size : Int), vs = [.ref p, .str word, .int many, .int size, .ref k] ∧ Pot H p g l k ∧ word ∈ W25 ∧ 1 ≤ size ∧ size ≤ 10 ∧ 1 ≤ many ∧ many ≤ 30 ∧
  ∀ (a : Addr) (i : Ins) (H' : Hp), Keep [p, g, k] H H' → Pot H' p g l k → RowAt K H' a i → i.Ok many size → i.word = word → Q (.ref a) H'
def sp_law_words (K : PySem.W.Frag) : Sp := fun vs H Q E => ∃ (u : Unit), vs = [] ∧ ∀ (H' : Hp) (l : Addr), Keep [] H H' → H l = none → H' l = some (.lst (W25.map V.str)) → Q (.ref l) H'
def sp_law_drawn (K : PySem.W.Frag) : Sp := fun vs H Q E => ∃ (p g l k : Addr), vs = [.ref p, .ref k] ∧ Pot H p g l k ∧
  ∀ (q lr lh : Addr) (D : Drw) (H' : Hp), Keep [p, g, k] H H' → Pot H' p g l k → H q = none → H lr = none → H lh = none → DrawnAt K H' q lr lh D → D.Ok → Q (.ref q) H'
def sp_Code_init (K : PySem.W.Frag) : Sp := fun vs H Q E => ∃ (x C dx lr lh : Addr) (nm : Str) (pa sz : Int) (xs ys : List V), vs = [.ref x, .str nm, .int pa, .int sz, .ref lr, .ref lh] ∧ H x = some (.ins C dx []) ∧ Cls K C ∧ NoCode K C ∧
  (H lr = some (.lst xs) ∨ H lr = some (.tup xs)) ∧ (H lh = some (.lst ys) ∨ H lh = some (.tup ys)) ∧
  ∀ (H' : Hp) (lr' lh' : Addr), Keep [x] H H' → H lr' = none → H lh' = none → lr' ≠ lh' → H' x = some (.ins C dx (flds nm pa sz lr' lh' .non)) → H' lr' = some (.lst xs) → H' lh' = some (.lst ys) → Q .non H'
def sp_slots_read (K : PySem.W.Frag) : Sp := fun vs H Q E => ∃ (a : Addr) (i : Ins) (m s : Int), vs = [.ref a] ∧ RowAt K H a i ∧ i.Ok m s ∧
  ∀ (H' : Hp) (l : Addr), Keep [] H H' → H l = none → H' l = some (.lst (i.reads.map V.int)) → Q (.ref l) H'
def sp_target (K : PySem.W.Frag) : Sp := fun vs H Q E => ∃ (a : Addr) (i : Ins) (m s : Int), vs = [.ref a] ∧ RowAt K H a i ∧ i.Ok m s ∧ Q (optV i.written) H
def sp_following (K : PySem.W.Frag) : Sp := fun vs H Q E => ∃ (p lr lh : Addr) (kl : V) (D : Drw) (j : Nat) (i : Ins), vs = [.ref p, .int j] ∧ CodeAt K H p lr lh kl D ∧ D.rows[j]? = some i ∧ i.Ok D.rows.length D.sz ∧
  ∀ (H' : Hp) (l : Addr), Keep [] H H' → H l = none → H' l = some (.lst ((later i j).map V.int)) → Q (.ref l) H'
def sp_handler_at (K : PySem.W.Frag) : Sp := fun vs H Q E => ∃ (p lr lh : Addr) (kl : V) (D : Drw) (pc : Int), vs = [.ref p, .int pc] ∧ CodeAt K H p lr lh kl D ∧
  ∀ v, CatV K H (catcher D.hs pc) v → Q v H
def sp_law_read (K : PySem.W.Frag) : Sp := fun vs H Q E => ∃ (a : Addr) (i : Ins) (m s : Int), vs = [.ref a] ∧ RowAt K H a i ∧ i.Ok m s ∧
  ∀ (H' : Hp) (l : Addr), Keep [] H H' → H l = none → H' l = some (.lst (i.reads.map V.int)) → Q (.ref l) H'
def sp_law_written (K : PySem.W.Frag) : Sp := fun vs H Q E => ∃ (a : Addr) (i : Ins) (m s : Int), vs = [.ref a] ∧ RowAt K H a i ∧ i.Ok m s ∧ ∀ H', Keep [] H H' → Q (optV i.written) H'
def sp_law_later (K : PySem.W.Frag) : Sp := fun vs H Q E => ∃ (l : Addr) (rows : List Ins) (j : Nat) (i : Ins), vs = [.ref l, .int j] ∧ RowsAt K H l rows ∧ rows[j]? = some i ∧ (∃ m s, i.Ok m s) ∧
  ∀ (H' : Hp) (l : Addr), Keep [] H H' → H l = none → H' l = some (.lst ((later i j).map V.int)) → Q (.ref l) H'
def sp_law_catcher (K : PySem.W.Frag) : Sp := fun vs H Q E => ∃ (l : Addr) (hs : List Hd) (pc : Int), vs = [.ref l, .int pc] ∧ HandsAt K H l hs ∧
  ∀ v, CatV K H (catcher hs pc) v → Q v H
def sp_law_same (n : Nat) (K : PySem.W.Frag) : Sp := fun vs H Q E => ∃ (x y : V) (d : PyData), vs = [x, y] ∧ Dp K H x d ∧ Dp K H y d ∧ gd d = true ∧ d.depth < n ∧ ∀ H', Keep [] H H' → Q (.bl true) H'
def sp_law (K : PySem.W.Frag) : Sp := fun vs H Q E => ∃ (a : Addr) (ns : List Int), vs = [.ref a] ∧ SqL K H a (ns.map V.int) ∧ ns.length ≤ 63 ∧ ∀ H', Q (.bl true) H'
/-! ### live slots -/
def natV (m : Nat) : V := .int (m : Int)
/-- all of S stands -/
def Ex (H : Hp) (S : List Addr) : Prop := ∀ x ∈ S, ∃ o, H x = some o
def KLive (K : PySem.W.Frag) (H : Hp) (S : List Addr) (kl : V) (D : Drw) : Prop := kl = .non ∨ ∃ t a b m, kl = .ref t ∧ H t = some (.tup [.ref a, .ref b, .ref m]) ∧ RowsAt K H a D.rows ∧ HandsAt K H b D.hs ∧ H m = some (.lst ((solM D).map natV)) ∧ a ∉ S ∧ b ∉ S ∧ m ∉ S
def Live (K : PySem.W.Frag) (H : Hp) (S : List Addr) (p : Addr) (D : Drw) : Prop := ∃ lr lh kl, CodeAt K H p lr lh kl D ∧ KLive K H S kl D ∧ p ∉ S ∧ lr ∉ S ∧ lh ∉ S
/-- lists of the members of masks -/
def AliveAt (H : Hp) (l : Addr) (ms : List Nat) : Prop := ∃ as : List Addr, H l = some (.lst (as.map V.ref)) ∧ Paired (fun a m => H a = some (.lst ((bits m).map V.int))) as ms
def sp_slots_in (K : PySem.W.Frag) : Sp := fun vs H Q E => ∃ (m : Nat), vs = [.int m] ∧ m < 1024 ∧ ∀ (H' : Hp) (l : Addr), Keep [] H H' → H l = none → H' l = some (.lst ((bits m).map V.int)) → Q (.ref l) H'
def sp_mask_of (K : PySem.W.Frag) : Sp := fun vs H Q E => ∃ (a : Addr) (xs : List Int), vs = [.ref a] ∧ SqL K H a (xs.map V.int) ∧ (∀ x ∈ xs, 0 ≤ x ∧ x < 10) ∧ Q (.int (maskL xs)) H
def sp_without_slot (K : PySem.W.Frag) : Sp := fun vs H Q E => ∃ (m : Nat) (s : Int), vs = [.int m, .int s] ∧ 0 ≤ s ∧ s < 10 ∧ Q (.int (wo m s)) H
def sp_waiting_mask (K : PySem.W.Frag) : Sp := fun vs H Q E => ∃ (p lr lh lm : Addr) (kl : V) (D : Drw) (ms : List Nat) (j : Nat), vs = [.ref p, .ref lm, .int j] ∧ CodeAt K H p lr lh kl D ∧ D.Ok ∧ H lm = some (.lst (ms.map natV)) ∧ ms.length = D.rows.length ∧ j < D.rows.length ∧
  ∀ H', Keep [] H H' → Q (.int (waitM D ms j)) H'
def sp_solved_masks (K : PySem.W.Frag) : Sp := fun vs H Q E => ∃ (p lr lh : Addr) (kl : V) (D : Drw), vs = [.ref p] ∧ CodeAt K H p lr lh kl D ∧ D.Ok ∧
  ∀ (H' : Hp) (l : Addr), Keep [] H H' → H l = none → H' l = some (.lst ((solM D).map natV)) → Q (.ref l) H'
def sp_live_masks (K : PySem.W.Frag) : Sp := fun vs H Q E => ∃ (p : Addr) (S : List Addr) (D : Drw), vs = [.ref p] ∧ Live K H S p D ∧ Ex H S ∧ D.Ok ∧
  ∀ (H' : Hp) (m : Addr), Keep [p] H H' → Live K H' S p D → H' m = some (.lst ((solM D).map natV)) → Q (.ref m) H'
def sp_live (K : PySem.W.Frag) : Sp := fun vs H Q E => ∃ (p : Addr) (S : List Addr) (D : Drw), vs = [.ref p] ∧ Live K H S p D ∧ Ex H S ∧ D.Ok ∧
  ∀ (H' : Hp) (l : Addr) (as : List Addr), (∀ H2, Keep (l :: as) H' H2 → Keep [p] H H2 ∧ Live K H2 S p D) → H' l = some (.lst (as.map V.ref)) → Paired (fun a m => a ≠ l ∧ H' a = some (.lst ((bits m).map V.int))) as (solM D) → Q (.ref l) H'
def sp_waiting (K : PySem.W.Frag) : Sp := fun vs H Q E => ∃ (p : Addr) (S : List Addr) (D : Drw) (j : Nat), vs = [.ref p, .int j] ∧ Live K H S p D ∧ Ex H S ∧ D.Ok ∧ j < D.rows.length ∧
  ∀ (H' : Hp) (l : Addr), (∀ H2, Keep [l] H' H2 → Keep [p] H H2 ∧ Live K H2 S p D) → H' l = some (.lst ((bits (waitM D (solM D) j)).map V.int)) → Q (.ref l) H'
def sp_law_waits (K : PySem.W.Frag) : Sp := fun vs H Q E => ∃ (la q lr lh : Addr) (D : Drw) (ms : List Nat) (j : Nat), vs = [.ref la, .ref q, .int j] ∧ AliveAt H la ms ∧ DrawnAt K H q lr lh D ∧ D.Ok ∧ ms.length = D.rows.length ∧ (∀ m ∈ ms, m < 2 ^ D.sz.toNat) ∧ j < D.rows.length ∧
  ∀ (H' : Hp) (l : Addr), Keep [] H H' → H l = none → H' l = some (.lst ((bits (waitM D ms j)).map V.int)) → Q (.ref l) H'
def AliveNew (H H' : Hp) (l : Addr) (ms : List Nat) : Prop := H l = none ∧ ∃ as : List Addr, H' l = some (.lst (as.map V.ref)) ∧ Paired (fun a m => H a = none ∧ a ≠ l ∧ H' a = some (.lst ((bits m).map V.int))) as ms
def sp_law_alive (K : PySem.W.Frag) : Sp := fun vs H Q E => ∃ (q lr lh : Addr) (D : Drw), vs = [.ref q] ∧ DrawnAt K H q lr lh D ∧ D.Ok ∧
  ∀ (H' : Hp) (l : Addr), Keep [] H H' → AliveNew H H' l (solM D) → Q (.ref l) H'
def sp_law_live_agrees (K : PySem.W.Frag) : Sp := fun vs H Q E => ∃ (p la : Addr) (S : List Addr) (D : Drw), vs = [.ref p, .ref la] ∧ Live K H S p D ∧ Ex H S ∧ AliveAt H la (solM D) ∧ D.Ok ∧ ∀ H', Keep [p] H H' → Live K H' S p D → Q (.bl true) H'
def sp_law_waiting_agrees (K : PySem.W.Frag) : Sp := fun vs H Q E => ∃ (p q lr lh la lk : Addr) (S : List Addr) (D : Drw) (js : List Nat), vs = [.ref p, .ref q, .ref la, .ref lk] ∧ Live K H S p D ∧ Ex H S ∧ DrawnAt K H q lr lh D ∧ AliveAt H la (solM D) ∧ D.Ok ∧ H lk = some (.lst (js.map natV)) ∧ (∀ x ∈ js, x < D.rows.length) ∧
  ∀ H', Keep [p] H H' → Live K H' S p D → Q (.bl true) H'
end LW
namespace LW
open PySem PySem.Spec PyProof.Rows L2 Rf
def t_handler_at (K : PySem.W.Frag) (w : World) (A : Adr) : TS :=
 (tSeq (tFor (iList K (tFld K (tVar 0) "handlers")) (gName 2)
 (tIfS (tTest (tChain rLeI rLtI (tOp (rIxT K) (tVar 2) (tC (.int 0))) (tVar 1) (tOp (rIxT K) (tVar 2) (tC (.int 1)))))
 (tRet (tVar 2))
 tNext))
 (tRet (tC .non)))
def t_slots_read (K : PySem.W.Frag) (w : World) (A : Adr) : TS :=
 (tSeq (tAsg (tLc (iTup K (tOp (rIxW K w) (tC (.ref A.c_READS)) (tOp (rIxT K) (tVar 0) (tC (.int 0))))) (gName 2) tYes (tOp (rIxT K) (tVar 0) (tVar 2)) [2]) (gName 1))
 (tSeq (tIfS (tTest (tOp (rInW K w) (tOp (rIxT K) (tVar 0) (tC (.int 0))) (tC (.ref A.c_LISTS))))
 (tDrop (tBM K "list" (rExtT K) (tVar 1) (tCons (tOp (rIxT K) (tVar 0) (tOp (rIxW K w) (tC (.ref A.c_LISTS)) (tOp (rIxT K) (tVar 0) (tC (.int 0))))) tNil)))
 tNext)
 (tRet (tVar 1))))
def t_target (K : PySem.W.Frag) (w : World) (A : Adr) : TS :=
 (tSeq (tAsg (tGetW K w (tC (.ref A.c_WRITES)) (tOp (rIxT K) (tVar 0) (tC (.int 0)))) (gName 1))
 (tSeq (tIfS (tTest (tOp rIsN0 (tVar 1) (tC .non)))
 (tRet (tC .non))
 tNext)
 (tRet (tOp (rIxT K) (tVar 0) (tVar 1)))))
def t_following (K : PySem.W.Frag) (w : World) (A : Adr) : TS :=
 (tSeq (tAsg (tOp (rIxL K) (tFld K (tVar 0) "rows") (tVar 1)) (gName 2))
 (tSeq (tIfS (tTest (tOp (rIn K false) (tOp (rIxT K) (tVar 2) (tC (.int 0))) (tTup (tCons (tC (.str "return")) (tCons (tC (.str "fail")) tNil)))))
 (tRet (tLst tNil))
 tNext)
 (tSeq (tIfS (tTest (tOp rEq (tOp (rIxT K) (tVar 2) (tC (.int 0))) (tC (.str "jump"))))
 (tRet (tLst (tCons (tOp (rIxT K) (tVar 2) (tC (.int 1))) tNil)))
 tNext)
 (tSeq (tIfS (tTest (tOp rEq (tOp (rIxT K) (tVar 2) (tC (.int 0))) (tC (.str "branch"))))
 (tRet (tCB (rSortedSet w) (tCons (tSetI2 w (tOp rAddI (tVar 1) (tC (.int 1))) (tOp (rIxT K) (tVar 2) (tC (.int 2)))) tNil)))
 tNext)
 (tRet (tLst (tCons (tOp rAddI (tVar 1) (tC (.int 1))) tNil)))))))
def t_live (K : PySem.W.Frag) (w : World) (A : Adr) : TS :=
 (tRet (tLc (iList K (tCall (sp_live_masks K) [] E0 (tCons (tVar 0) tNil))) (gName 1) tYes (tCall (sp_slots_in K) [] E0 (tCons (tVar 1) tNil)) [1]))
def t_waiting (K : PySem.W.Frag) (w : World) (A : Adr) : TS :=
 (tRet (tCall (sp_slots_in K) [] E0 (tCons (tCall (sp_waiting_mask K) [] E0 (tCons (tVar 0) (tCons (tCall (sp_live_masks K) [] E0 (tCons (tVar 0) tNil)) (tCons (tVar 1) tNil)))) tNil)))
def t_slots_in (K : PySem.W.Frag) (w : World) (A : Adr) : TS :=
 (tRet (tLc (iRng1 (tCons (tBits (tVar 0)) tNil)) (gName 1) (tTest (tOp rEq (tOp rAndI (tOp rShrI (tVar 0) (tVar 1)) (tC (.int 1))) (tC (.int 1)))) (tVar 1) [1]))
def t_mask_of (K : PySem.W.Frag) (w : World) (A : Adr) : TS :=
 (tSeq (tAsg (tC (.int 0)) (gName 1))
 (tSeq (tFor (iList K (tVar 0)) (gName 2)
 (tAsg (tOp rOrI (tVar 1) (tOp rShlI (tC (.int 1)) (tVar 2))) (gName 1)))
 (tRet (tVar 1))))
def t_without_slot (K : PySem.W.Frag) (w : World) (A : Adr) : TS :=
 (tRet (tOp rSubI (tVar 0) (tOp rAndI (tVar 0) (tOp rShlI (tC (.int 1)) (tVar 1)))))
def t_live_masks (K : PySem.W.Frag) (w : World) (A : Adr) : TS :=
 (tSeq (tAsg (tFld K (tVar 0) "known_live") (gName 1))
 (tSeq (tIfS (tAnd (tTest (tOp rNotN0 (tVar 1) (tC .non))) (tAnd (tTest (tOp (rEqD K) (tOp (rIxT K) (tVar 1) (tC (.int 0))) (tFld K (tVar 0) "rows"))) (tTest (tOp (rEqD K) (tOp (rIxT K) (tVar 1) (tC (.int 1))) (tFld K (tVar 0) "handlers")))))
 (tRet (tOp (rIxT K) (tVar 1) (tC (.int 2))))
 tNext)
 (tSeq (tAsg (tCall (sp_solved_masks K) [] E0 (tCons (tVar 0) tNil)) (gName 2))
 (tSeq (sFld K (tVar 0) (tTup (tCons (tCB (rListOf K) (tCons (tFld K (tVar 0) "rows") tNil)) (tCons (tCB (rListOf K) (tCons (tFld K (tVar 0) "handlers") tNil)) (tCons (tVar 2) tNil)))) "known_live")
 (tRet (tVar 2))))))
def t_solved_masks (K : PySem.W.Frag) (w : World) (A : Adr) : TS :=
 (tSeq (tAsg (tLc (iList K (tFld K (tVar 0) "rows")) (gName 6) tYes (tC (.int 0)) [6]) (gName 1))
 (tSeq (tAsg (tLc (iList K (tFld K (tVar 0) "rows")) (gName 6) tYes (tCall (sp_mask_of K) [] E0 (tCons (tCall (sp_slots_read K) [] E0 (tCons (tVar 6) tNil)) tNil)) [6]) (gName 2))
 (tSeq (tAsg (tC (.bl true)) (gName 3))
 (tSeq (tWhile (tB (tVar 3))
 (tSeq (tAsg (tC (.bl false)) (gName 3))
 (tFor (iRevR (tRg1 (tCB (rLenS K) (tCons (tVar 2) tNil)))) (gName 4)
 (tSeq (tAsg (tOp rOrI (tOp (rIxL K) (tVar 2) (tVar 4)) (tCall (sp_waiting_mask K) [] E0 (tCons (tVar 0) (tCons (tVar 1) (tCons (tVar 4) tNil))))) (gName 5))
 (tIfS (tTest (tOp rNe (tVar 5) (tOp (rIxL K) (tVar 1) (tVar 4))))
 (tSeq (tAsg (tVar 5) (gSub (tVar 1) (tVar 4) rSetL))
 (tAsg (tC (.bl true)) (gName 3)))
 tNext)))))
 (tRet (tVar 1))))))
def t_waiting_mask (K : PySem.W.Frag) (w : World) (A : Adr) : TS :=
 (tSeq (tAsg (tC (.int 0)) (gName 3))
 (tSeq (tFor (iList K (tCall (sp_following K) [] E0 (tCons (tVar 0) (tCons (tVar 2) tNil)))) (gName 4)
 (tIfS (tTest (tOp rLtI (tVar 4) (tCB (rLenS K) (tCons (tVar 1) tNil))))
 (tAsg (tOp rOrI (tVar 3) (tOp (rIxL K) (tVar 1) (tVar 4))) (gName 3))
 tNext))
 (tSeq (tAsg (tCall (sp_target K) [] E0 (tCons (tOp (rIxL K) (tFld K (tVar 0) "rows") (tVar 2)) tNil)) (gName 5))
 (tSeq (tIfS (tTest (tOp rNotN0 (tVar 5) (tC .non)))
 (tAsg (tCall (sp_without_slot K) [] E0 (tCons (tVar 3) (tCons (tVar 5) tNil))) (gName 3))
 tNext)
 (tSeq (tAsg (tCall (sp_handler_at K) [] E0 (tCons (tVar 0) (tCons (tVar 2) tNil))) (gName 6))
 (tSeq (tIfS (tAnd (tTest (tOp rNotN0 (tVar 6) (tC .non))) (tTest (tOp rLtI (tOp (rIxT K) (tVar 6) (tC (.int 2))) (tCB (rLenS K) (tCons (tVar 1) tNil)))))
 (tAsg (tOp rOrI (tVar 3) (tCall (sp_without_slot K) [] E0 (tCons (tOp (rIxL K) (tVar 1) (tOp (rIxT K) (tVar 6) (tC (.int 2)))) (tCons (tOp (rIxT K) (tVar 6) (tC (.int 3))) tNil)))) (gName 3))
 tNext)
 (tRet (tVar 3))))))))
def t_Code_init (K : PySem.W.Frag) (w : World) (A : Adr) : TS :=
 (tSeq (sFld K (tVar 0) (tVar 1) "name")
 (tSeq (sFld K (tVar 0) (tVar 2) "params")
 (tSeq (sFld K (tVar 0) (tVar 3) "size")
 (tSeq (sFld K (tVar 0) (tCB (rListOf K) (tCons (tVar 4) tNil)) "rows")
 (tSeq (sFld K (tVar 0) (tCB (rListOf K) (tCons (tVar 5) tNil)) "handlers")
 (sFld K (tVar 0) (tC .non) "known_live"))))))
def t_law_box (K : PySem.W.Frag) (w : World) (A : Adr) : TS :=
 (tSeq (tAsg (tLc (iList K (tSl (rSlL K) (tVar 0) tNoPart (tPart (tC (.int 63))))) (gName 3) tYes (tCB rInt1 (tCons (tVar 3) tNil)) [3]) (gName 1))
 (tSeq (tAsg (tLc (iList K (tVar 1)) (gName 3) (tTest (tOp rLtI (tVar 3) (tOp rPowI (tC (.int 10)) (tC (.int 18))))) (tOp rModI (tCB rInt1 (tCons (tVar 3) tNil)) (tC (.int 2147483629))) [3]) (gName 2))
 (tRet (tLst (tCons (tLc (iList K (tVar 1)) (gName 3) (tTest (tOp rGeI (tVar 3) (tOp rPowI (tC (.int 10)) (tC (.int 18))))) (tVar 3) [3]) (tCons (tOp rCat (tLst (tCons (tOp rAddI (tCB (rLenS K) (tCons (tVar 1) tNil)) (tC (.int 17))) tNil)) (tVar 2)) (tCons (tC (.int 7)) (tCons (tC (.int 0)) tNil))))))))
def t_law_draw (K : PySem.W.Frag) (w : World) (A : Adr) : TS :=
 (tSeq (tAsg (tOp (rIxL K) (tVar 0) (tC (.int 0))) (gName 2))
 (tSeq (tIfS (tTruth K (tVar 2))
 (tSeq (tAsg (tBM K "list" rPopAt (tVar 2) (tCons (tC (.int 0)) tNil)) (gName 3))
 (tSeq (tIfS (tTest (tOp rGeI (tVar 3) (tVar 1)))
 (tDrop (tBM K "list" rInsert (tVar 2) (tCons (tC (.int 0)) (tCons (tOp rDivW (tVar 3) (tVar 1)) tNil))))
 tNext)
 (tRet (tOp rModI (tCB rInt1 (tCons (tVar 3) tNil)) (tVar 1)))))
 tNext)
 (tSeq (tAsg (tOp (rIxL K) (tVar 0) (tC (.int 1))) (gName 4))
 (tSeq (tAsg (tOp rAddI (tOp (rIxL K) (tVar 0) (tC (.int 3))) (tC (.int 1))) (gSub (tVar 0) (tC (.int 3)) rSetL))
 (tSeq (tAsg (tOp (rIxL K) (tVar 4) (tOp rModI (tOp (rIxL K) (tVar 0) (tC (.int 3))) (tCB (rLenS K) (tCons (tVar 4) tNil)))) (gName 5))
 (tSeq (tAsg (tOp rModI (tCB rInt1 (tCons (tOp rAddI (tOp rAddI (tOp rMulI (tOp (rIxL K) (tVar 0) (tC (.int 2))) (tC (.int 48271))) (tVar 5)) (tOp rMulI (tOp (rIxL K) (tVar 0) (tC (.int 3))) (tC (.int 69621)))) tNil)) (tC (.int 2147483647))) (gSub (tVar 0) (tC (.int 2)) rSetL))
 (tRet (tOp rModI (tOp rModI (tCB rInt1 (tCons (tOp rAddI (tOp rMulI (tOp rDivI (tOp (rIxL K) (tVar 0) (tC (.int 2))) (tC (.int 8))) (tC (.int 40692))) (tOp (rIxL K) (tVar 0) (tC (.int 3)))) tNil)) (tC (.int 2147483399))) (tVar 1)))))))))
def t_law_reserved (K : PySem.W.Frag) (w : World) (A : Adr) : TS :=
 (tSeq (tAsg (tLst (tCons (tC (.str "array")) (tCons (tC (.str "call")) (tCons (tC (.str "catch")) (tCons (tC (.str "def")) (tCons (tC (.str "div")) (tCons (tC (.str "drop")) (tCons (tC (.str "else")) (tCons (tC (.str "fail")) (tCons (tC (.str "if")) (tCons (tC (.str "len")) (tCons (tC (.str "load")) (tCons (tC (.str "mod")) tNil))))))))))))) (gName 0))
 (tRet (tOp rCat (tVar 0) (tLst (tCons (tC (.str "new")) (tCons (tC (.str "nil")) (tCons (tC (.str "not")) (tCons (tC (.str "pause")) (tCons (tC (.str "return")) (tCons (tC (.str "say")) (tCons (tC (.str "spawn")) (tCons (tC (.str "try")) (tCons (tC (.str "while")) tNil)))))))))))))
def t_law_word (K : PySem.W.Frag) (w : World) (A : Adr) : TS :=
 (tSeq (tAsg (tC (.str "abcdefghijklmnopqrstuvwxyz")) (gName 2))
 (tSeq (tAsg (tCall (sp_law_draw K) [] E0 (tCons (tVar 0) (tCons (tC (.int 8)) tNil))) (gName 3))
 (tSeq (tIfS (tAnd (tTruth K (tVar 1)) (tTest (tOp rLtI (tVar 3) (tC (.int 2)))))
 (tRet (tOp (rIxL K) (tVar 1) (tCall (sp_law_draw K) [] E0 (tCons (tVar 0) (tCons (tCB (rLenS K) (tCons (tVar 1) tNil)) tNil)))))
 tNext)
 (tSeq (tAsg (tOp rAddI (tC (.int 1)) (tCall (sp_law_draw K) [] E0 (tCons (tVar 0) (tCons (tC (.int 12)) tNil)))) (gName 4))
 (tSeq (tAsg (tM1 (rJoin K) (tC (.str "")) (tLc (iRng1 (tCons (tVar 4) tNil)) (gName 7) tYes (tOp rIxS (tVar 2) (tCall (sp_law_draw K) [] E0 (tCons (tVar 0) (tCons (tC (.int 26)) tNil)))) [7])) (gName 5))
 (tSeq (tIfS (tAnd (tTruth K (tVar 1)) (tTest (tOp rEq (tVar 3) (tC (.int 2)))))
 (tSeq (tAsg (tOp (rIxL K) (tVar 1) (tCall (sp_law_draw K) [] E0 (tCons (tVar 0) (tCons (tCB (rLenS K) (tCons (tVar 1) tNil)) tNil)))) (gName 6))
 (tIfS (tTest (tOp rLtI (tCB rLenT (tCons (tVar 6) tNil)) (tC (.int 12))))
 (tAsg (tOp rAddS (tVar 6) (tOp rIxS (tVar 5) (tC (.int 0)))) (gName 5))
 tNext))
 tNext)
 (tSeq (tIfS (tTest (tOp rEq (tVar 3) (tC (.int 3))))
 (tAsg (tOp rAddS (tOp (rIxL K) (tCall (sp_law_reserved K) [] E0 tNil) (tCall (sp_law_draw K) [] E0 (tCons (tVar 0) (tCons (tC (.int 21)) tNil)))) (tOp rIxS (tVar 5) (tC (.int 0)))) (gName 5))
 tNext)
 (tSeq (tIfS (tTest (tOp (rIn K false) (tVar 5) (tCall (sp_law_reserved K) [] E0 tNil)))
 (tAsg (tOp rAddS (tVar 5) (tC (.str "q"))) (gName 5))
 tNext)
 (tSeq (tIfS (tAnd (tTest (tOp rLtI (tCB (rLenS K) (tCons (tVar 1) tNil)) (tC (.int 12)))) (tTest (tOp (rIn K true) (tVar 5) (tVar 1))))
 (tDrop (tBM K "list" rAppend (tVar 1) (tCons (tVar 5) tNil)))
 tNext)
 (tRet (tVar 5)))))))))))
def t_law_value (K : PySem.W.Frag) (w : World) (A : Adr) : TS :=
 (tSeq (tAsg (tCall (sp_law_draw K) [] E0 (tCons (tVar 0) (tCons (tC (.int 5)) tNil))) (gName 2))
 (tSeq (tIfS (tTest (tOp rEq (tVar 2) (tC (.int 0))))
 (tRet (tC .non))
 tNext)
 (tSeq (tIfS (tTest (tOp rEq (tVar 2) (tC (.int 1))))
 (tRet (tTup (tCons (tC (.str "fn")) (tCons (tCall (sp_law_word K) [] E0 (tCons (tVar 0) (tCons (tVar 1) tNil))) tNil))))
 tNext)
 (tSeq (tIfS (tTest (tOp rEq (tVar 2) (tC (.int 2))))
 (tRet (tOp (rIxL K) (tLst (tCons (tC (.str "")) (tCons (tC (.str "nil")) (tCons (tC (.str "x = 1;")) (tCons (tOp rMulS (tC (.str "abc")) (tC (.int 20))) tNil))))) (tCall (sp_law_draw K) [] E0 (tCons (tVar 0) (tCons (tC (.int 4)) tNil)))))
 tNext)
 (tRet (tCall (sp_law_draw K) [] E0 (tCons (tVar 0) (tCons (tOp rPowI (tC (.int 10)) (tC (.int 12))) tNil))))))))
def t_law_row (K : PySem.W.Frag) (w : World) (A : Adr) : TS :=
 (tSeq (tAsg (tCall (sp_law_draw K) [] E0 (tCons (tVar 0) (tCons (tVar 3) tNil))) (gName 5))
 (tSeq (tAsg (tCall (sp_law_draw K) [] E0 (tCons (tVar 0) (tCons (tVar 3) tNil))) (gName 6))
 (tSeq (tAsg (tCall (sp_law_draw K) [] E0 (tCons (tVar 0) (tCons (tVar 3) tNil))) (gName 7))
 (tSeq (tAsg (tCall (sp_law_word K) [] E0 (tCons (tVar 0) (tCons (tVar 4) tNil))) (gName 8))
 (tSeq (tAsg (tCB (rTupOf K) (tCons (tLc (iRng1 (tCons (tOp (rIxL K) (tLst (tCons (tC (.int 0)) (tCons (tC (.int 1)) (tCons (tC (.int 2)) (tCons (tC (.int 3)) (tCons (tC (.int 5)) tNil)))))) (tCall (sp_law_draw K) [] E0 (tCons (tVar 0) (tCons (tC (.int 5)) tNil)))) tNil)) (gName 11) tYes (tCall (sp_law_draw K) [] E0 (tCons (tVar 0) (tCons (tVar 3) tNil))) [11]) tNil)) (gName 9))
 (tSeq (tIfS (tTest (tOp rEq (tVar 1) (tC (.str "const"))))
 (tRet (tTup (tCons (tC (.str "const")) (tCons (tVar 5) (tCons (tCall (sp_law_value K) [] E0 (tCons (tVar 0) (tCons (tVar 4) tNil))) tNil)))))
 tNext)
 (tSeq (tIfS (tTest (tOp (rIn K false) (tVar 1) (tLst (tCons (tC (.str "move")) (tCons (tC (.str "not")) (tCons (tC (.str "array")) (tCons (tC (.str "len")) tNil)))))))
 (tRet (tTup (tCons (tVar 1) (tCons (tVar 5) (tCons (tVar 6) tNil)))))
 tNext)
 (tSeq (tIfS (tTest (tOp rEq (tVar 1) (tC (.str "op"))))
 (tSeq (tAsg (tLst (tCons (tC (.str "add")) (tCons (tC (.str "div")) (tCons (tC (.str "eq")) (tCons (tC (.str "le")) (tCons (tC (.str "lt")) (tCons (tC (.str "mod")) (tCons (tC (.str "mul")) (tCons (tC (.str "sub")) tNil))))))))) (gName 10))
 (tRet (tTup (tCons (tC (.str "op")) (tCons (tOp (rIxL K) (tVar 10) (tCall (sp_law_draw K) [] E0 (tCons (tVar 0) (tCons (tC (.int 8)) tNil)))) (tCons (tVar 5) (tCons (tVar 6) (tCons (tVar 7) tNil))))))))
 tNext)
 (tSeq (tIfS (tTest (tOp rEq (tVar 1) (tC (.str "jump"))))
 (tRet (tTup (tCons (tC (.str "jump")) (tCons (tCall (sp_law_draw K) [] E0 (tCons (tVar 0) (tCons (tVar 2) tNil))) tNil))))
 tNext)
 (tSeq (tIfS (tTest (tOp rEq (tVar 1) (tC (.str "branch"))))
 (tRet (tTup (tCons (tC (.str "branch")) (tCons (tVar 5) (tCons (tCall (sp_law_draw K) [] E0 (tCons (tVar 0) (tCons (tVar 2) tNil))) tNil)))))
 tNext)
 (tSeq (tIfS (tTest (tOp (rIn K false) (tVar 1) (tLst (tCons (tC (.str "getg")) (tCons (tC (.str "new")) (tCons (tC (.str "drop")) tNil))))))
 (tRet (tTup (tCons (tVar 1) (tCons (tVar 5) (tCons (tVar 8) tNil)))))
 tNext)
 (tSeq (tIfS (tTest (tOp rEq (tVar 1) (tC (.str "setg"))))
 (tRet (tTup (tCons (tC (.str "setg")) (tCons (tVar 8) (tCons (tVar 5) tNil)))))
 tNext)
 (tSeq (tIfS (tTest (tOp rEq (tVar 1) (tC (.str "get"))))
 (tRet (tTup (tCons (tC (.str "get")) (tCons (tVar 5) (tCons (tVar 6) (tCons (tVar 8) tNil))))))
 tNext)
 (tSeq (tIfS (tTest (tOp rEq (tVar 1) (tC (.str "put"))))
 (tRet (tTup (tCons (tC (.str "put")) (tCons (tVar 5) (tCons (tVar 8) (tCons (tVar 6) tNil))))))
 tNext)
 (tSeq (tIfS (tTest (tOp (rIn K false) (tVar 1) (tLst (tCons (tC (.str "at")) (tCons (tC (.str "setat")) tNil)))))
 (tRet (tTup (tCons (tVar 1) (tCons (tVar 5) (tCons (tVar 6) (tCons (tVar 7) tNil))))))
 tNext)
 (tSeq (tIfS (tTest (tOp rEq (tVar 1) (tC (.str "call"))))
 (tRet (tTup (tCons (tC (.str "call")) (tCons (tVar 5) (tCons (tVar 8) (tCons (tVar 9) tNil))))))
 tNext)
 (tSeq (tIfS (tTest (tOp rEq (tVar 1) (tC (.str "callv"))))
 (tRet (tTup (tCons (tC (.str "callv")) (tCons (tVar 5) (tCons (tVar 6) (tCons (tVar 9) tNil))))))
 tNext)
 (tSeq (tIfS (tTest (tOp rEq (tVar 1) (tC (.str "method"))))
 (tRet (tTup (tCons (tC (.str "method")) (tCons (tVar 5) (tCons (tVar 6) (tCons (tVar 8) (tCons (tVar 9) tNil)))))))
 tNext)
 (tSeq (tIfS (tTest (tOp rEq (tVar 1) (tC (.str "spawn"))))
 (tRet (tTup (tCons (tC (.str "spawn")) (tCons (tVar 8) (tCons (tVar 9) tNil)))))
 tNext)
 (tSeq (tIfS (tTest (tOp rEq (tVar 1) (tC (.str "pause"))))
 (tRet (tTup (tCons (tC (.str "pause")) tNil)))
 tNext)
 (tRet (tTup (tCons (tVar 1) (tCons (tVar 5) tNil))))))))))))))))))))))))
def t_law_words (K : PySem.W.Frag) (w : World) (A : Adr) : TS :=
 (tSeq (tAsg (tLst (tCons (tC (.str "const")) (tCons (tC (.str "move")) (tCons (tC (.str "op")) (tCons (tC (.str "not")) (tCons (tC (.str "jump")) (tCons (tC (.str "branch")) (tCons (tC (.str "getg")) (tCons (tC (.str "setg")) (tCons (tC (.str "new")) (tCons (tC (.str "get")) (tCons (tC (.str "put")) (tCons (tC (.str "drop")) tNil))))))))))))) (gName 0))
 (tSeq (tAsg (tOp rCat (tVar 0) (tLst (tCons (tC (.str "array")) (tCons (tC (.str "at")) (tCons (tC (.str "setat")) (tCons (tC (.str "len")) (tCons (tC (.str "call")) (tCons (tC (.str "callv")) (tCons (tC (.str "method")) (tCons (tC (.str "return")) (tCons (tC (.str "say")) (tCons (tC (.str "fail")) tNil)))))))))))) (gName 0))
 (tRet (tOp rCat (tVar 0) (tLst (tCons (tC (.str "load")) (tCons (tC (.str "spawn")) (tCons (tC (.str "pause")) tNil))))))))
def t_law_drawn (K : PySem.W.Frag) (w : World) (A : Adr) : TS :=
 (tSeq (tAsg (tOp rCat (tCall (sp_law_words K) [] E0 tNil) (tLst (tCons (tC (.str "branch")) (tCons (tC (.str "branch")) (tCons (tC (.str "branch")) (tCons (tC (.str "jump")) (tCons (tC (.str "jump")) (tCons (tC (.str "move")) (tCons (tC (.str "op")) tNil))))))))) (gName 2))
 (tSeq (tAsg (tOp rAddI (tC (.int 1)) (tCall (sp_law_draw K) [] E0 (tCons (tVar 0) (tCons (tC (.int 10)) tNil)))) (gName 3))
 (tSeq (tAsg (tOp rAddI (tOp (rIxL K) (tLst (tCons (tC (.int 1)) (tCons (tC (.int 2)) (tCons (tC (.int 4)) (tCons (tC (.int 7)) (tCons (tC (.int 12)) (tCons (tC (.int 28)) tNil))))))) (tCall (sp_law_draw K) [] E0 (tCons (tVar 0) (tCons (tC (.int 6)) tNil)))) (tCall (sp_law_draw K) [] E0 (tCons (tVar 0) (tCons (tC (.int 3)) tNil)))) (gName 4))
 (tSeq (tAsg (tLc (iRng1 (tCons (tOp rSubI (tVar 4) (tC (.int 1))) tNil)) (gName 5) tYes (tCall (sp_law_row K) [] E0 (tCons (tVar 0) (tCons (tOp (rIxL K) (tVar 2) (tCall (sp_law_draw K) [] E0 (tCons (tVar 0) (tCons (tC (.int 32)) tNil)))) (tCons (tVar 4) (tCons (tVar 3) (tCons (tVar 1) tNil)))))) [5]) (gName 6))
 (tSeq (tDrop (tBM K "list" rAppend (tVar 6) (tCons (tCall (sp_law_row K) [] E0 (tCons (tVar 0) (tCons (tOp (rIxL K) (tLst (tCons (tC (.str "jump")) (tCons (tC (.str "return")) (tCons (tC (.str "fail")) tNil)))) (tCall (sp_law_draw K) [] E0 (tCons (tVar 0) (tCons (tC (.int 3)) tNil)))) (tCons (tVar 4) (tCons (tVar 3) (tCons (tVar 1) tNil)))))) tNil)))
 (tSeq (tAsg (tLst tNil) (gName 7))
 (tSeq (tFor (iRng1 (tCons (tOp (rIxL K) (tLst (tCons (tC (.int 0)) (tCons (tC (.int 1)) (tCons (tC (.int 2)) (tCons (tC (.int 4)) tNil))))) (tCall (sp_law_draw K) [] E0 (tCons (tVar 0) (tCons (tC (.int 4)) tNil)))) tNil)) (gName 5)
 (tSeq (tAsg (tCall (sp_law_draw K) [] E0 (tCons (tVar 0) (tCons (tVar 4) tNil))) (gName 8))
 (tSeq (tAsg (tOp rAddI (tVar 8) (tCall (sp_law_draw K) [] E0 (tCons (tVar 0) (tCons (tOp rAddI (tOp rSubI (tVar 4) (tVar 8)) (tC (.int 1))) tNil)))) (gName 9))
 (tDrop (tBM K "list" rAppend (tVar 7) (tCons (tTup (tCons (tVar 8) (tCons (tVar 9) (tCons (tCall (sp_law_draw K) [] E0 (tCons (tVar 0) (tCons (tVar 4) tNil))) (tCons (tCall (sp_law_draw K) [] E0 (tCons (tVar 0) (tCons (tVar 3) tNil))) tNil))))) tNil))))))
 (tSeq (tIfS (tTest (tOp rGtI (tCB (rLenS K) (tCons (tVar 7) tNil)) (tC (.int 2))))
 (tDrop (tBM K "list" rAppend (tVar 7) (tCons (tOp (rIxL K) (tVar 7) (tCall (sp_law_draw K) [] E0 (tCons (tVar 0) (tCons (tC (.int 2)) tNil)))) tNil)))
 tNext)
 (tRet (tLst (tCons (tCall (sp_law_word K) [] E0 (tCons (tVar 0) (tCons (tVar 1) tNil))) (tCons (tCall (sp_law_draw K) [] E0 (tCons (tVar 0) (tCons (tOp rAddI (tVar 3) (tC (.int 1))) tNil))) (tCons (tVar 3) (tCons (tVar 6) (tCons (tVar 7) tNil)))))))))))))))
def t_law_read (K : PySem.W.Frag) (w : World) (A : Adr) : TS :=
 (tSeq (tAsg (tOp (rIxT K) (tVar 0) (tC (.int 0))) (gName 1))
 (tSeq (tIfS (tTest (tOp (rIn K false) (tVar 1) (tLst (tCons (tC (.str "call")) (tCons (tC (.str "spawn")) tNil)))))
 (tRet (tCB (rListOf K) (tCons (tOp (rIxT K) (tVar 0) (tUn (rU fun i => .int (-i)) (tC (.int 1)))) tNil)))
 tNext)
 (tSeq (tIfS (tTest (tOp (rIn K false) (tVar 1) (tLst (tCons (tC (.str "callv")) (tCons (tC (.str "method")) tNil)))))
 (tRet (tOp rCat (tLst (tCons (tOp (rIxT K) (tVar 0) (tC (.int 2))) tNil)) (tCB (rListOf K) (tCons (tOp (rIxT K) (tVar 0) (tUn (rU fun i => .int (-i)) (tC (.int 1)))) tNil))))
 tNext)
 (tSeq (tAsg (tDisp [((tC (.str "move")), (tLst (tCons (tC (.int 2)) tNil))), ((tC (.str "op")), (tLst (tCons (tC (.int 3)) (tCons (tC (.int 4)) tNil)))), ((tC (.str "not")), (tLst (tCons (tC (.int 2)) tNil))), ((tC (.str "branch")), (tLst (tCons (tC (.int 1)) tNil))), ((tC (.str "setg")), (tLst (tCons (tC (.int 2)) tNil))), ((tC (.str "get")), (tLst (tCons (tC (.int 2)) tNil))), ((tC (.str "put")), (tLst (tCons (tC (.int 1)) (tCons (tC (.int 3)) tNil))))]) (gName 2))
 (tSeq (tAsg (tDisp [((tC (.str "drop")), (tLst (tCons (tC (.int 1)) tNil))), ((tC (.str "array")), (tLst (tCons (tC (.int 2)) tNil))), ((tC (.str "at")), (tLst (tCons (tC (.int 2)) (tCons (tC (.int 3)) tNil)))), ((tC (.str "setat")), (tLst (tCons (tC (.int 1)) (tCons (tC (.int 2)) (tCons (tC (.int 3)) tNil))))), ((tC (.str "len")), (tLst (tCons (tC (.int 2)) tNil))), ((tC (.str "return")), (tLst (tCons (tC (.int 1)) tNil)))]) (gName 3))
 (tSeq (tIfS (tB (tDIn (tVar 1) (tVar 2)))
 (tRet (tLc (iList K (tDGet (tVar 2) (tVar 1))) (gName 4) tYes (tOp (rIxT K) (tVar 0) (tVar 4)) [4]))
 tNext)
 (tSeq (tIfS (tB (tDIn (tVar 1) (tVar 3)))
 (tRet (tLc (iList K (tDGet (tVar 3) (tVar 1))) (gName 4) tYes (tOp (rIxT K) (tVar 0) (tVar 4)) [4]))
 tNext)
 (tSeq (tIfS (tTest (tOp (rIn K false) (tVar 1) (tLst (tCons (tC (.str "say")) (tCons (tC (.str "fail")) (tCons (tC (.str "load")) tNil))))))
 (tRet (tLst (tCons (tOp (rIxT K) (tVar 0) (tC (.int 1))) tNil)))
 tNext)
 (tRet (tLst tNil))))))))))
def t_law_written (K : PySem.W.Frag) (w : World) (A : Adr) : TS :=
 (tSeq (tIfS (tTest (tOp rEq (tOp (rIxT K) (tVar 0) (tC (.int 0))) (tC (.str "op"))))
 (tRet (tOp (rIxT K) (tVar 0) (tC (.int 2))))
 tNext)
 (tSeq (tAsg (tLst (tCons (tC (.str "const")) (tCons (tC (.str "move")) (tCons (tC (.str "not")) (tCons (tC (.str "getg")) (tCons (tC (.str "new")) (tCons (tC (.str "get")) (tCons (tC (.str "array")) (tCons (tC (.str "at")) (tCons (tC (.str "len")) (tCons (tC (.str "call")) (tCons (tC (.str "callv")) (tCons (tC (.str "method")) tNil))))))))))))) (gName 1))
 (tSeq (tIfS (tTest (tOp (rIn K false) (tOp (rIxT K) (tVar 0) (tC (.int 0))) (tVar 1)))
 (tRet (tOp (rIxT K) (tVar 0) (tC (.int 1))))
 tNext)
 (tRet (tC .non)))))
def t_law_later (K : PySem.W.Frag) (w : World) (A : Adr) : TS :=
 (tSeq (tAsg (tOp (rIxT K) (tOp (rIxL K) (tVar 0) (tVar 1)) (tC (.int 0))) (gName 2))
 (tSeq (tIfS (tTest (tOp (rIn K false) (tVar 2) (tLst (tCons (tC (.str "return")) (tCons (tC (.str "fail")) tNil)))))
 (tRet (tLst tNil))
 tNext)
 (tSeq (tIfS (tTest (tOp rEq (tVar 2) (tC (.str "jump"))))
 (tRet (tLst (tCons (tOp (rIxT K) (tOp (rIxL K) (tVar 0) (tVar 1)) (tC (.int 1))) tNil)))
 tNext)
 (tSeq (tIfS (tAnd (tTest (tOp rEq (tVar 2) (tC (.str "branch")))) (tTest (tOp rNe (tOp (rIxT K) (tOp (rIxL K) (tVar 0) (tVar 1)) (tC (.int 2))) (tOp rAddI (tVar 1) (tC (.int 1))))))
 (tRet (tCB (rSortedI K) (tCons (tLst (tCons (tOp rAddI (tVar 1) (tC (.int 1))) (tCons (tOp (rIxT K) (tOp (rIxL K) (tVar 0) (tVar 1)) (tC (.int 2))) tNil))) tNil)))
 tNext)
 (tRet (tLst (tCons (tOp rAddI (tVar 1) (tC (.int 1))) tNil)))))))
def t_law_catcher (K : PySem.W.Frag) (w : World) (A : Adr) : TS :=
 (tSeq (tFor (iList K (tVar 0)) (gName 2)
 (tIfS (tAnd (tTest (tOp rLeI (tOp (rIxT K) (tVar 2) (tC (.int 0))) (tVar 1))) (tTest (tOp rLtI (tVar 1) (tOp (rIxT K) (tVar 2) (tC (.int 1))))))
 (tRet (tVar 2))
 tNext))
 (tRet (tC .non)))
def t_law_waits (K : PySem.W.Frag) (w : World) (A : Adr) : TS :=
 (tSeq (tAsg (tLst tNil) (gName 3))
 (tSeq (tFor (iList K (tCall (sp_law_later K) [] E0 (tCons (tOp (rIxL K) (tVar 1) (tC (.int 3))) (tCons (tVar 2) tNil)))) (gName 4)
 (tAsg (tOp rCat (tVar 3) (tOp (rIxL K) (tVar 0) (tVar 4))) (gName 3)))
 (tSeq (tAsg (tLst tNil) (gName 5))
 (tSeq (tAsg (tCall (sp_law_catcher K) [] E0 (tCons (tOp (rIxL K) (tVar 1) (tC (.int 4))) (tCons (tVar 2) tNil))) (gName 6))
 (tSeq (tIfS (tTest (tOp rNotN0 (tVar 6) (tC .non)))
 (tAsg (tLc (iList K (tOp (rIxL K) (tVar 0) (tOp (rIxT K) (tVar 6) (tC (.int 2))))) (gName 8) (tTest (tOp rNe (tVar 8) (tOp (rIxT K) (tVar 6) (tC (.int 3))))) (tVar 8) [8]) (gName 5))
 tNext)
 (tSeq (tAsg (tCall (sp_law_written K) [] E0 (tCons (tOp (rIxL K) (tOp (rIxL K) (tVar 1) (tC (.int 3))) (tVar 2)) tNil)) (gName 7))
 (tRet (tLc (iRng1 (tCons (tOp (rIxL K) (tVar 1) (tC (.int 2))) tNil)) (gName 8) (tOr (tAnd (tTest (tOp (rIn K false) (tVar 8) (tVar 3))) (tTest (tOp (rNeD K) (tVar 8) (tVar 7)))) (tTest (tOp (rIn K false) (tVar 8) (tVar 5)))) (tVar 8) [8]))))))))
def t_law_alive (K : PySem.W.Frag) (w : World) (A : Adr) : TS :=
 (tSeq (tAsg (tOp (rIxL K) (tVar 0) (tC (.int 3))) (gName 1))
 (tSeq (tAsg (tCB (rLenS K) (tCons (tVar 1) tNil)) (gName 2))
 (tSeq (tAsg (tLc (iList K (tVar 1)) (gName 10) tYes (tLst tNil) [10]) (gName 3))
 (tSeq (tFor (iRng1 (tCons (tOp rAddI (tOp rMulI (tVar 2) (tOp (rIxL K) (tVar 0) (tC (.int 2)))) (tC (.int 1))) tNil)) (gName 4)
 (tSeq (tAsg (tCB (rSum K) (tCons (tLc (iList K (tVar 3)) (gName 11) tYes (tCB (rLenS K) (tCons (tVar 11) tNil)) [11]) tNil)) (gName 5))
 (tSeq (tFor (iRng1 (tCons (tVar 2) tNil)) (gName 6)
 (tSeq (tAsg (tOp rSubI (tOp rSubI (tVar 2) (tC (.int 1))) (tVar 6)) (gName 7))
 (tSeq (tAsg (tCall (sp_law_waits K) [] E0 (tCons (tVar 3) (tCons (tVar 0) (tCons (tVar 7) tNil)))) (gName 8))
 (tSeq (tAsg (tCall (sp_law_read K) [] E0 (tCons (tOp (rIxL K) (tVar 1) (tVar 7)) tNil)) (gName 9))
 (tAsg (tLc (iRng1 (tCons (tOp (rIxL K) (tVar 0) (tC (.int 2))) tNil)) (gName 12) (tOr (tTest (tOp (rIn K false) (tVar 12) (tVar 8))) (tTest (tOp (rIn K false) (tVar 12) (tVar 9)))) (tVar 12) [12]) (gSub (tVar 3) (tVar 7) rSetL))))))
 (tIfS (tTest (tOp rEq (tCB (rSum K) (tCons (tLc (iList K (tVar 3)) (gName 11) tYes (tCB (rLenS K) (tCons (tVar 11) tNil)) [11]) tNil)) (tVar 5)))
 tBreak
 tNext))))
 (tRet (tVar 3))))))
def t_law_same (n : Nat) (K : PySem.W.Frag) (w : World) (A : Adr) : TS :=
 (tSeq (tIfS (tOr (tB (tCB (rIsi K) (tCons (tVar 1) (tCons (tC (.ty "list")) tNil)))) (tB (tCB (rIsi K) (tCons (tVar 1) (tCons (tC (.ty "tuple")) tNil)))))
 (tSeq (tIfS (tAnd (tB (tCB (rIsi K) (tCons (tVar 1) (tCons (tC (.ty "list")) tNil)))) (tNot (tB (tCB (rIsi K) (tCons (tVar 0) (tCons (tC (.ty "list")) tNil))))))
 (tRet (tC (.bl false)))
 tNext)
 (tSeq (tIfS (tAnd (tB (tCB (rIsi K) (tCons (tVar 1) (tCons (tC (.ty "tuple")) tNil)))) (tNot (tB (tCB (rIsi K) (tCons (tVar 0) (tCons (tC (.ty "tuple")) tNil))))))
 (tRet (tC (.bl false)))
 tNext)
 (tRet (tAndV (tOp rEq (tCB (rLenS K) (tCons (tVar 0) tNil)) (tCB (rLenS K) (tCons (tVar 1) tNil))) (tCB (rAll K) (tCons (tLc (iRng1 (tCons (tCB (rLenS K) (tCons (tVar 1) tNil)) tNil)) (gName 2) tYes (tCall (sp_law_same n K) [] E0 (tCons (tOp (rIxQ K) (tVar 0) (tVar 2)) (tCons (tOp (rIxQ K) (tVar 1) (tVar 2)) tNil))) [2]) tNil))))))
 tNext)
 (tSeq (tIfS (tTest (tOp rIsN0 (tVar 1) (tC .non)))
 (tRet (tOp rIsN0 (tVar 0) (tC .non)))
 tNext)
 (tSeq (tIfS (tB (tCB (rIsi K) (tCons (tVar 1) (tCons (tC (.ty "str")) tNil))))
 (tRet (tAndV (tCB (rIsi K) (tCons (tVar 0) (tCons (tC (.ty "str")) tNil))) (tOp rEq (tVar 0) (tVar 1))))
 tNext)
 (tRet (tAndV (tCB (rIsi K) (tCons (tVar 0) (tCons (tC (.ty "int")) tNil))) (tAndV (tNotV (tCB (rIsi K) (tCons (tVar 0) (tCons (tC (.ty "bool")) tNil)))) (tOp rEq (tVar 0) (tVar 1))))))))
def t_law_live_agrees (K : PySem.W.Frag) (w : World) (A : Adr) : TS :=
 (tSeq (tAsg (tCall (sp_live K) [] E0 (tCons (tVar 0) tNil)) (gName 2))
 (tSeq (tIfS (tNot (tB (tCall (sp_law_same 5 K) [] E0 (tCons (tVar 2) (tCons (tVar 1) tNil)))))
 (tRet (tC (.bl false)))
 tNext)
 (tSeq (tFor (iList K (tVar 2)) (gName 3)
 (tDrop (tBM K "list" rAppend (tVar 3) (tCons (tC (.int 99)) tNil))))
 (tSeq (tDrop (tBM0 K "list" rClear (tVar 2)))
 (tRet (tC (.bl true)))))))
def t_law_waiting_agrees (K : PySem.W.Frag) (w : World) (A : Adr) : TS :=
 (tSeq (tFor (iList K (tVar 3)) (gName 4)
 (tSeq (tAsg (tCall (sp_waiting K) [] E0 (tCons (tVar 0) (tCons (tVar 4) tNil))) (gName 5))
 (tSeq (tIfS (tNot (tB (tCall (sp_law_same 5 K) [] E0 (tCons (tVar 5) (tCons (tCall (sp_law_waits K) [] E0 (tCons (tVar 2) (tCons (tVar 1) (tCons (tVar 4) tNil)))) tNil)))))
 (tRet (tC (.bl false)))
 tNext)
 (tDrop (tBM K "list" rAppend (tVar 5) (tCons (tC (.int 98)) tNil))))))
 (tRet (tC (.bl true))))
def t_law (K : PySem.W.Frag) (w : World) (A : Adr) : TS :=
 (tSeq (tAsg (tCall (sp_law_box K) [] E0 (tCons (tVar 0) tNil)) (gName 1))
 (tSeq (tAsg (tLst tNil) (gName 2))
 (tSeq (tAsg (tLst (tCons (tCall (sp_law_drawn K) [] E0 (tCons (tVar 1) (tCons (tVar 2) tNil))) (tCons (tCall (sp_law_drawn K) [] E0 (tCons (tVar 1) (tCons (tVar 2) tNil))) tNil))) (gName 3))
 (tSeq (tAsg (tLc (iList K (tVar 3)) (gName 10) tYes (tMake A.C_Code (sp_Code_init K) [] E0 (tCons (tOp (rIxL K) (tVar 10) (tC (.int 0))) (tCons (tOp (rIxL K) (tVar 10) (tC (.int 1))) (tCons (tOp (rIxL K) (tVar 10) (tC (.int 2))) (tCons (tCB (rListOf K) (tCons (tOp (rIxL K) (tVar 10) (tC (.int 3))) tNil)) (tCons (tCB (rListOf K) (tCons (tOp (rIxL K) (tVar 10) (tC (.int 4))) tNil)) tNil)))))) [10]) (gName 4))
 (tSeq (tAsg (tLc (iList K (tVar 3)) (gName 10) tYes (tCall (sp_law_alive K) [] E0 (tCons (tVar 10) tNil)) [10]) (gName 5))
 (tSeq (tFor (iRng1 (tCons (tC (.int 4)) tNil)) (gName 6)
 (tSeq (tAsg (tOp rModI (tVar 6) (tC (.int 2))) (gName 7))
 (tSeq (tAsg (tLstRg (tRg1 (tCB (rLenS K) (tCons (tOp (rIxL K) (tVar 5) (tVar 7)) tNil)))) (gName 8))
 (tSeq (tIfS (tTest (tOp rGtI (tVar 6) (tC (.int 1))))
 (tAsg (tLst (tCons (tCall (sp_law_draw K) [] E0 (tCons (tVar 1) (tCons (tCB (rLenS K) (tCons (tOp (rIxL K) (tVar 5) (tVar 7)) tNil)) tNil))) tNil)) (gName 8))
 tNext)
 (tSeq (tFor (iList K (tOp (rIxL K) (tLst (tCons (tLst (tCons (tC (.int 0)) (tCons (tC (.int 1)) tNil))) (tCons (tLst (tCons (tC (.int 1)) (tCons (tC (.int 0)) tNil))) tNil))) (tCall (sp_law_draw K) [] E0 (tCons (tVar 1) (tCons (tC (.int 2)) tNil))))) (gName 9)
 (tSeq (tIfS (tAnd (tTest (tOp rEq (tVar 9) (tC (.int 0)))) (tNot (tB (tCall (sp_law_live_agrees K) [] E0 (tCons (tOp (rIxL K) (tVar 4) (tVar 7)) (tCons (tOp (rIxL K) (tVar 5) (tVar 7)) tNil))))))
 (tRet (tC (.bl false)))
 tNext)
 (tIfS (tAnd (tTest (tOp rEq (tVar 9) (tC (.int 1)))) (tNot (tB (tCall (sp_law_waiting_agrees K) [] E0 (tCons (tOp (rIxL K) (tVar 4) (tVar 7)) (tCons (tOp (rIxL K) (tVar 3) (tVar 7)) (tCons (tOp (rIxL K) (tVar 5) (tVar 7)) (tCons (tVar 8) tNil))))))))
 (tRet (tC (.bl false)))
 tNext)))
 (tIfS (tNot (tB (tCall (sp_law_same 5 K) [] E0 (tCons (tLst (tCons (tFld K (tOp (rIxL K) (tVar 4) (tVar 7)) "rows") (tCons (tFld K (tOp (rIxL K) (tVar 4) (tVar 7)) "handlers") tNil))) (tCons (tLst (tCons (tOp (rIxL K) (tOp (rIxL K) (tVar 3) (tVar 7)) (tC (.int 3))) (tCons (tOp (rIxL K) (tOp (rIxL K) (tVar 3) (tVar 7)) (tC (.int 4))) tNil))) tNil)))))
 (tRet (tC (.bl false)))
 tNext))))))
 (tRet (tC (.bl true)))))))))
end LW
section
open PySem PySem.Spec PyProof.Rows L2 Rf
local macro_rules | `(tactic| walk_at "ne") => `(tactic| first | assumption | exact Ne.symm (by assumption) | ((refine' ne_of_none ?na ?nb); (case nb => assumption); (case na => walk_at "look")) | ((refine' Ne.symm (ne_of_none ?na ?nb)); (case nb => assumption); (case na => walk_at "look")))
local macro_rules | `(tactic| walk_at "look") => `(tactic| first | assumption | exact upd_same | ((refine' upd_ne' ?gn ?gk); (case gn => walk_at "ne"); (case gk => walk_at "look")))
local macro_rules | `(tactic| walk_at "seqL") => `(tactic| first | assumption | (apply sqL; walk_at "look"))
local macro_rules | `(tactic| walk_at "seqT") => `(tactic| first | assumption | (apply sqT; walk_at "look"))
local macro_rules | `(tactic| walk_at "rd") => `(tactic| first | assumption | (apply rdO; walk_at "look"))
local macro_rules | `(tactic| walk_at "cmul") => `(tactic| first | exact Or.inr ⟨by decide, by decide⟩ | exact Or.inl ⟨by decide, by decide⟩ | exact Or.inl ⟨by omega, by omega⟩ | exact Or.inr ⟨by omega, by omega⟩)
local macro_rules | `(tactic| walk_at "pos") => `(tactic| first | decide | assumption | omega)
local macro_rules | `(tactic| walk_at "size") => `(tactic| first | exact sz (by simp only [List.length_cons, List.length_nil, List.length_append, List.length_map]; omega) | exact sz (by simp; omega))
local macro_rules | `(tactic| walk_at "sizeL") => `(tactic| first | exact szL (by simp only [List.length_cons, List.length_nil, List.length_append, List.length_map]; omega) | exact szL (by simp; omega))
local macro_rules | `(tactic| walk_at "stm") => `(tactic| first
  | with_reducible refine' go_seq ?_
  | with_reducible refine' go_asgN ?_
  | with_reducible refine' go_asgS ?_
  | with_reducible refine' go_ifS ?_
  | with_reducible refine' go_ret ?_
  | with_reducible refine' go_drop ?_
  | with_reducible refine' go_next ?_
  | with_reducible refine' go_brk ?_
  | with_reducible refine' go_cont ?_
  | with_reducible refine' go_retN ?_
  | with_reducible refine' go_dput ?_
  | with_reducible refine' go_for ?_)
local macro_rules | `(tactic| walk_at "exp") => `(tactic| first
  | ((with_reducible refine' go_var ?gh ?_); (case gh => exact rfl))
  | with_reducible refine' go_c ?_
  | with_reducible refine' go_op ?_
  | with_reducible refine' go_test ?_
  | with_reducible refine' go_bl ?_
  | with_reducible refine' go_cb ?_
  | with_reducible refine' go_cons ?_
  | with_reducible refine' go_nil ?_
  | with_reducible refine' go_add ?_
  | with_reducible refine' go_sub ?_
  | ((with_reducible refine' go_mul ?gh ?_); (case gh => walk_at "cmul"))
  | ((with_reducible refine' go_mulW ?gh ?_); (case gh => exact cmulW (by omega) (by omega) (by omega) (by omega)))
  | ((with_reducible refine' go_divW ?gh ?_); (case gh => exact cdivW (by omega) (by omega)))
  | ((with_reducible refine' go_mod ?gh ?_); (case gh => walk_at "pos"))
  | ((with_reducible refine' go_div ?gh ?gi ?_); (case gh => walk_at "pos"); (case gi => walk_at "pos"))
  | ((with_reducible refine' go_pow ?gh ?_); (case gh => exact ⟨by decide, by decide, by decide⟩))
  | with_reducible refine' go_lt ?_
  | with_reducible refine' go_le ?_
  | with_reducible refine' go_gt ?_
  | with_reducible refine' go_ge ?_
  | with_reducible refine' go_eqI ?_
  | with_reducible refine' go_neI ?_
  | with_reducible refine' go_eqS ?_
  | with_reducible refine' go_neS ?_
  | with_reducible refine' go_isN ?_
  | with_reducible refine' go_isNi ?_
  | with_reducible refine' go_isNs ?_
  | with_reducible refine' go_isNr ?_
  | with_reducible refine' go_notN ?_
  | with_reducible refine' go_notNi ?_
  | with_reducible refine' go_notNs ?_
  | with_reducible refine' go_notNr ?_
  | with_reducible refine' go_tB ?_
  | with_reducible refine' go_tAnd ?_
  | with_reducible refine' go_tOr ?_
  | with_reducible refine' go_tNot ?_
  | with_reducible refine' go_andV ?_
  | with_reducible refine' go_orV ?_
  | with_reducible refine' go_notV ?_
  | with_reducible refine' go_tIf ?_
  | with_reducible refine' go_iteT ?_
  | with_reducible refine' go_iteF ?_
  | with_reducible refine' go_nT ?_
  | with_reducible refine' go_nF ?_
  | ((with_reducible refine' go_ixL ?gh ?gi ?_); (case gh => walk_at "seqL"); (case gi => exact rfl))
  | ((with_reducible refine' go_ixT ?gh ?gi ?_); (case gh => walk_at "seqT"); (case gi => exact rfl))
  | ((with_reducible refine' go_setL ?gh ?gi ?gj ?_); (case gh => walk_at "look"); (case gi => exact rfl); (case gj => (simp only [Int.reduceToNat, List.set_cons_succ, List.set_cons_zero]; try exact rfl)))
  | with_reducible refine' go_call ?_
  | with_reducible refine' go_bm ?_
  | with_reducible refine' go_bm0 ?_
  | ((with_reducible refine' go_tyL ?gh ?_); (case gh => walk_at "look"))
  | ((with_reducible refine' go_app ?gh ?gi ?_); (case gh => walk_at "look"); (case gi => walk_at "sizeL"))
  | ((with_reducible refine' go_lenL ?gh ?_); (case gh => walk_at "seqL"))
  | ((with_reducible refine' go_lenT ?gh ?_); (case gh => walk_at "seqT"))
  | ((with_reducible refine' go_lenD ?gh ?_); (case gh => walk_at "rd"))
  | with_reducible refine' go_int ?_
  | with_reducible refine' go_intB ?_
  | with_reducible refine' go_dget ?_
  | with_reducible refine' go_dinT ?_
  | with_reducible refine' go_dget1 ?_
  | with_reducible refine' go_dget2 ?_
  | with_reducible refine' go_dninT ?_
  | ((with_reducible refine' go_dnew ?_); intro _ _)
  | with_reducible refine' go_sl ?_
  | with_reducible refine' go_noPart ?_
  | with_reducible refine' go_part ?_
  | with_reducible refine' go_partI ?_
  | with_reducible refine' go_tup ?_
  | with_reducible refine' go_lst ?_
  | with_reducible refine' go_truth ?_
  | ((with_reducible refine' go_isi ?gh ?gi ?_); (case gh => walk_at "tyx"); (case gi => walk_at "kit"))
  | with_reducible refine' go_iList ?_
  | with_reducible refine' go_iTup ?_
  | with_reducible refine' go_iRng1 ?_
  | with_reducible refine' go_iRng2 ?_
  | with_reducible refine' go_lc ?_
  | with_reducible refine' go_gName ?_
  | ((with_reducible refine' go_gTup2 ?gh ?_); (case gh => walk_at "seqT"))
  | ((with_reducible refine' go_inI ?gh ?_); (case gh => walk_at "seqL"))
  | ((with_reducible refine' go_notInI ?gh ?_); (case gh => walk_at "seqL"))
  | ((with_reducible refine' go_listL ?gh ?_); (case gh => walk_at "seqL"); intro _ _)
  | ((with_reducible refine' go_listD ?gh ?_); (case gh => walk_at "look"); intro _ _)
  | ((with_reducible refine' go_sum ?gh ?_); (case gh => walk_at "seqL"))
  | ((with_reducible refine' go_slL ?gh ?_); (case gh => walk_at "seqL"); intro _ _)
  | ((with_reducible refine' go_alloc ?gh ?_); (case gh => walk_at "size"); intro _ _)
  | ((with_reducible refine' go_eqNil ?gh ?gi ?_); (case gh => walk_at "seqL"); (case gi => walk_at "seqL"))
  | ((with_reducible refine' go_dputI ?gh ?gi ?_); (case gh => walk_at "look"); (case gi => walk_at "sizeL"))
  | ((with_reducible refine' go_dputS ?gh ?gi ?_); (case gh => walk_at "look"); (case gi => walk_at "sizeL")))
local macro_rules | `(tactic| walk_at "tidy") => `(tactic| try (dsimp only [List.set_cons_succ, List.set_cons_zero, List.nil_append, List.append_nil, List.cons_append]))
local macro_rules | `(tactic| walk_at "go") => `(tactic| repeat (first | walk_at "stm" | walk_at "exp"))
local macro_rules | `(tactic| walk_at "free") => `(tactic| first | assumption | (refine Keep.free (S := []) ?_ (by assumption) (by simp); walk_at "keep"))
local macro_rules | `(tactic| walk_at "keep") => `(tactic| first | assumption | exact Keep.refl | ((with_reducible refine' Keep.upd ?gk ?gm); (case gm => simp; done); (case gk => walk_at "keep")) | ((with_reducible refine' Keep.trans ?gk (Keep.new ?gm)); (case gm => assumption); (case gk => walk_at "keep")) | ((with_reducible refine' Keep.fresh ?gk ?gm); (case gm => walk_at "free"); (case gk => walk_at "keep")) | ((refine' Keep.trans ?gk (by assumption)); walk_at "keep"))
local macro_rules | `(tactic| walk_at "tyx") => `(tactic| first | exact .base (.int _) | exact .base (.str _) | exact .base .non | exact .base (.bl _) | exact .base (.lst (by walk_at "look")) | exact .base (.tup (by walk_at "look")) | exact .base (.dK (by walk_at "look")))
local macro_rules | `(tactic| walk_at "kit") => `(tactic| first | exact kit_int_int | exact kit_int_bool | exact kit_int_str | exact kit_int_list | exact kit_int_tuple | exact kit_int_dict | exact kit_bool_int | exact kit_bool_bool | exact kit_bool_str | exact kit_bool_list | exact kit_bool_tuple | exact kit_bool_dict | exact kit_str_int | exact kit_str_bool | exact kit_str_str | exact kit_str_list | exact kit_str_tuple | exact kit_str_dict | exact kit_NoneType_int | exact kit_NoneType_bool | exact kit_NoneType_str | exact kit_NoneType_list | exact kit_NoneType_tuple | exact kit_NoneType_dict | exact kit_list_int | exact kit_list_bool | exact kit_list_str | exact kit_list_list | exact kit_list_tuple | exact kit_list_dict | exact kit_tuple_int | exact kit_tuple_bool | exact kit_tuple_str | exact kit_tuple_list | exact kit_tuple_tuple | exact kit_tuple_dict | exact kit_dict_int | exact kit_dict_bool | exact kit_dict_str | exact kit_dict_list | exact kit_dict_tuple | exact kit_dict_dict)
local macro_rules | `(tactic| walk_at "ex") => `(tactic| repeat (walk_at "exp"))
local macro_rules | `(tactic| walk_at "flds") => `(tactic| first | exact rfl | (simp [List.lookup]; done))
local macro_rules | `(tactic| walk_at "exp2") => `(tactic| first
  | with_reducible refine' go_m1 ?_
  | with_reducible refine' go_isS ?_
  | with_reducible refine' go_chain ?_
  | ((with_reducible refine' go_pop0 ?gh ?_); (case gh => walk_at "look"))
  | ((with_reducible refine' go_ins0 ?gh ?gi ?_); (case gh => walk_at "look"); (case gi => walk_at "sizeL"))
  | ((with_reducible refine' go_cat ?gh ?gi ?gj ?_); (case gh => walk_at "look"); (case gi => walk_at "look"); (case gj => walk_at "size"); intro _ _)
  | ((with_reducible refine' go_truL ?gh ?_); (case gh => walk_at "seqL"))
  | with_reducible refine' go_tfld ?_
  | with_reducible refine' go_sfld ?_
  | with_reducible refine' go_make ?_
  | ((with_reducible refine' go_inS ?gh ?_); (case gh => walk_at "seqL"))
  | ((with_reducible refine' go_ninS ?gh ?_); (case gh => walk_at "seqL"))
  | ((with_reducible refine' go_clear ?gh ?_); (case gh => walk_at "look"))
  | with_reducible refine' go_orI ?_
  | with_reducible refine' go_andI ?_
  | with_reducible refine' go_bits ?_
  | with_reducible refine' go_getW ?_)
local macro_rules | `(tactic| walk_at "go") => `(tactic| repeat (first | walk_at "stm" | walk_at "exp" | walk_at "exp2"))
local macro_rules | `(tactic| walk_at "ex") => `(tactic| repeat (first | walk_at "exp" | walk_at "exp2"))
local macro_rules | `(tactic| walk_at "seqT") => `(tactic| first | assumption | (apply sqT; walk_at "look") | ((refine' sqT_upd ?ga ?gb); (case gb => assumption); (case ga => walk_at "seqT")))
local macro_rules | `(tactic| walk_at "seqL") => `(tactic| first | assumption | (apply sqL; walk_at "look") | ((refine' sqL_upd ?ga ?gb); (case gb => assumption); (case ga => walk_at "seqL")))
local macro_rules | `(tactic| walk_at "dec") => `(tactic| first | refine go_ite_t (by decide +kernel) ?_ | refine go_ite_f (by decide +kernel) ?_ | refine go_ite_nt (by decide +kernel) ?_ | refine go_ite_nf (by decide +kernel) ?_)
local macro_rules | `(tactic| walk_at "inn") => `(tactic| first | refine go_inV (r := true) (by walk_at "seqL") rfl (by decide +kernel) ?_ | refine go_inV (r := false) (by walk_at "seqL") rfl (by decide +kernel) ?_ | refine go_inVT (r := true) (by walk_at "seqT") rfl (by decide +kernel) ?_ | refine go_inVT (r := false) (by walk_at "seqT") rfl (by decide +kernel) ?_)
local macro_rules | `(tactic| walk_at "auto") => `(tactic| repeat (first | walk_at "stm" | walk_at "exp" | walk_at "exp2" | walk_at "dec" | walk_at "inn"))
section
namespace LW
open CM
open PySem.PyData (strOk)
variable {K : PySem.W.Frag} {w : World} {mg : Str → Option Value} {A : Adr}
theorem rd_law_box {vs H Q E} (T : Txt K w mg A) (h : sp_law_box K vs H Q E) : t_law_box K w A { nx := fun _ H' => Q .non H', rt := Q } (L2.start n_law_box vs) H := by
  obtain ⟨a, ns, rfl, hS, hl, q⟩ := h
  unfold t_law_box
  show tSeq _ _ _ [some (V.ref a), none, none, none] H
  walk_at "go"
  rename_i l0 nl0
  have hc : cutV (ns.map V.int) none (some 63) = ns.map V.int := by
    unfold cutV
    show (List.drop 0 (ns.map V.int)).take (min 63 (ns.map V.int).length - 0) = _
    rw [List.drop_zero, List.take_of_length_le (by rw [List.length_map]; omega)]
  rw [hc]
  refine go_lcM (K := K) (xs := ns.map V.int) (by walk_at "seqL") (fun x => x) (szL (by rw [List.length_map]; omega)) (fun v => rfl) (fun x hx H' R k hr => ?_) (fun cells nc => ?_)
  · obtain ⟨i, _, rfl⟩ := List.mem_map.1 hx
    walk_at "go"
    exact hr
  rw [List.map_id']
  generalize hH1 : upd (upd H l0 (.lst (ns.map V.int))) cells (.lst (ns.map V.int)) = H1
  have k1 : Keep [] H H1 := by subst hH1; walk_at "keep"
  have h1 : H1 cells = some (.lst (ns.map V.int)) := by subst hH1; exact upd_same
  have ncf : H cells = none := (Keep.new (S := []) nl0).free nc (by simp)
  clear hH1
  walk_at "go"
  refine go_lcLF (K := K) (xs := ns.map V.int) (by walk_at "seqL") (fun x => match x with | .int i => .int (i % 2147483629) | y => y) (fun x => match x with | .int i => decide (i < 10 ^ (18 : Int).toNat) | _ => true) (szL (by rw [List.length_map]; omega)) (fun v => rfl) (fun x hx H' R k hr => ?_) (fun x hx _ H' R k hr => ?_) (fun lesser H2 nd k2 h2 => ?_)
  · obtain ⟨i, _, rfl⟩ := List.mem_map.1 hx
    walk_at "go"
    exact hr _ Keep.refl
  · obtain ⟨i, _, rfl⟩ := List.mem_map.1 hx
    walk_at "go"
    exact hr _ Keep.refl
  obtain ⟨ls, el⟩ : ∃ ls : List Int, (((ns.map V.int).filter (fun x => match x with | .int i => decide (i < 10 ^ (18 : Int).toNat) | _ => true)).map (fun x => match x with | .int i => V.int (i % 2147483629) | y => y)) = ls.map V.int ∧ ls.length ≤ 63 := by
    refine ⟨(ns.filter fun i => decide (i < 10 ^ (18 : Int).toNat)).map fun i => i % 2147483629, ?_, ?_⟩
    · rw [List.filter_map, List.map_map, List.map_map]; rfl
    · rw [List.length_map]
      exact Nat.le_trans (List.length_filter_le _ _) hl
  rw [el.1] at h2
  have n2 : H lesser = none := k1.free nd (by simp)
  walk_at "go"
  refine go_lcLF (K := K) (xs := ns.map V.int) (sqL (k2 _ _ h1 (by simp))) (fun x => x) (fun x => match x with | .int i => decide (10 ^ (18 : Int).toNat ≤ i) | _ => true) (szL (by rw [List.length_map]; omega)) (fun v => rfl) (fun x hx H' R k hr => ?_) (fun x hx _ H' R k hr => ?_) (fun great H3 ng k3 h3 => ?_)
  · obtain ⟨i, _, rfl⟩ := List.mem_map.1 hx
    walk_at "go"
    exact hr _ Keep.refl
  · obtain ⟨i, _, rfl⟩ := List.mem_map.1 hx
    walk_at "go"
    exact hr _ Keep.refl
  obtain ⟨gs, eg⟩ : ∃ gs : List Int, (((ns.map V.int).filter (fun x => match x with | .int i => decide (10 ^ (18 : Int).toNat ≤ i) | _ => true)).map fun x => x) = gs.map V.int ∧ gs.length ≤ 63 := by
    refine ⟨ns.filter fun i => decide (10 ^ (18 : Int).toNat ≤ i), ?_, ?_⟩
    · rw [List.map_id', List.filter_map]; rfl
    · exact Nat.le_trans (List.length_filter_le _ _) hl
  rw [eg.1] at h3
  have h1' := k3 _ _ (k2 _ _ h1 (by simp)) (by simp)
  have h2' := k3 _ _ h2 (by simp)
  walk_at "go"
  rename_i s1 ns1 s2 ns2 p np
  have k13 : Keep [] H H3 := (k1.trans k2).trans k3
  have ngf : H great = none := (k1.trans k2).free ng (by simp)
  refine q _ p great s2 (by walk_at "keep") (by walk_at "free") ngf (by walk_at "free") ⟨gs, ((ns.map V.int).length + 17 : Int) :: ls, 7, 0, by walk_at "look", by walk_at "look", ?_, ?_, eg.2, by simp, by simp; exact el.2⟩
  · have : (upd (upd H3 s1 (.lst [.int (((ns.map V.int).length : Int) + 17)])) s2 (.lst ([.int (((ns.map V.int).length : Int) + 17)] ++ ls.map V.int))) s2 = some (.lst (((((ns.map V.int).length : Int) + 17) :: ls).map V.int)) := upd_same
    exact upd_ne' (ne_of_none this np) this
  · intro e
    subst e
    have hh : (upd H3 s1 (.lst [.int (((ns.map V.int).length : Int) + 17)])) great = some (.lst (gs.map V.int)) := by walk_at "look"
    rw [hh] at ns2; cases ns2
theorem Box.keep {H H' : Hp} {S : List Addr} {p g l : Addr} (k : Keep S H H') (n1 : p ∉ S) (n2 : g ∉ S) (n3 : l ∉ S) (b : Box H p g l) : Box H' p g l := by
  obtain ⟨gs, ls, a, b, h1, h2, h3, r⟩ := b
  exact ⟨gs, ls, a, b, k _ _ h1 n1, k _ _ h2 n2, k _ _ h3 n3, r⟩
theorem Box.ne {H : Hp} {p g l : Addr} (b : Box H p g l) : p ≠ g ∧ p ≠ l ∧ g ≠ l := by
  obtain ⟨gs, ls, a, b, h1, h2, h3, n, r⟩ := b
  refine ⟨fun e => ?_, fun e => ?_, n⟩
  · subst e; rw [h1] at h2; injection h2 with h2; injection h2 with h2; cases gs <;> simp at h2
  · subst e; rw [h1] at h3; injection h3 with h3; injection h3 with h3; cases ls <;> simp at h3
theorem rd_law_draw {vs H Q E} (T : Txt K w mg A) (h : sp_law_draw K vs H Q E) : t_law_draw K w A { nx := fun _ H' => Q .non H', rt := Q } (L2.start n_law_draw vs) H := by
  obtain ⟨p, g, l, n, rfl, B, h1, h2, q⟩ := h
  obtain ⟨npg, npl, ngl⟩ := B.ne
  obtain ⟨gs, ls, a, b, hp, hg, hl, _, g1, l1, l2⟩ := B
  unfold t_law_draw
  show tSeq _ _ _ [some (V.ref p), some (V.int n), none, none, none, none] H
  walk_at "go"
  refine ⟨_, Or.inl ⟨_, sqL hg, rfl⟩, ?_⟩
  cases gs with
  | cons c gs =>
    show if true = true then _ else _
    refine go_iteT ?_
    have hg' : H g = some (.lst (.int c :: gs.map V.int)) := hg
    have hn0 : (0 : Int) < n := by omega
    have gl : gs.length ≤ 62 := by simpa using g1
    walk_at "go"
    refine go_ite (fun h3 => ?_) (fun h3 => ?_)
    · walk_at "go"
      exact q _ _ (Int.emod_nonneg _ (by omega)) (Int.emod_lt_of_pos _ hn0) (by walk_at "keep") ⟨c / n :: gs, ls, a, b, by walk_at "look", by walk_at "look", by walk_at "look", ngl, by rw [List.length_cons]; omega, l1, l2⟩
    · walk_at "go"
      exact q _ _ (Int.emod_nonneg _ (by omega)) (Int.emod_lt_of_pos _ hn0) (by walk_at "keep") ⟨gs, ls, a, b, by walk_at "look", by walk_at "look", by walk_at "look", ngl, by omega, l1, l2⟩
  | nil =>
    show if false = true then _ else _
    refine go_iteF ?_
    have hlp : (0 : Int) < ((ls.map V.int).length : Int) := by rw [List.length_map]; omega
    have hn0 : (0 : Int) < n := by omega
    walk_at "go"
    have hlt : ((b + 1) % ((ls.map V.int).length : Int)).toNat < ls.length := by
      have h3 := Int.emod_lt_of_pos (b + 1) hlp
      have h4 := Int.emod_nonneg (b + 1) (by omega : ((ls.map V.int).length : Int) ≠ 0)
      rw [List.length_map] at h3 h4 ⊢
      omega
    refine go_ixL (v := .int ls[((b + 1) % ((ls.map V.int).length : Int)).toNat]) (by walk_at "seqL") (at_of (j := ((b + 1) % ((ls.map V.int).length : Int)).toNat) (by have := Int.emod_nonneg (b + 1) (by omega : ((ls.map V.int).length : Int) ≠ 0); omega) (by rw [List.getElem?_map, List.getElem?_eq_getElem hlt]; rfl)) ?_
    generalize ls[((b + 1) % ((ls.map V.int).length : Int)).toNat] = fresh
    walk_at "go"
    exact q _ _ (Int.emod_nonneg _ (by omega)) (Int.emod_lt_of_pos _ hn0) (by walk_at "keep") ⟨[], ls, _, _, by walk_at "look", by walk_at "look", by walk_at "look", ngl, by simp, l1, l2⟩
theorem rd_law_reserved {vs H Q E} (T : Txt K w mg A) (h : sp_law_reserved K vs H Q E) : t_law_reserved K w A { nx := fun _ H' => Q .non H', rt := Q } (L2.start n_law_reserved vs) H := by
  obtain ⟨u, rfl, q⟩ := h
  unfold t_law_reserved
  show tSeq _ _ _ [none] H
  walk_at "go"
  rename_i s1 ns1 s2 ns2 s3 ns3
  refine q _ s3 ["array", "call", "catch", "def", "div", "drop", "else", "fail", "if", "len", "load", "mod", "new", "nil", "not", "pause", "return", "say", "spawn", "try", "while"] (by walk_at "keep") (by walk_at "free") upd_same rfl ?_
  decide +kernel
theorem rd_law_words {vs H Q E} (T : Txt K w mg A) (h : sp_law_words K vs H Q E) : t_law_words K w A { nx := fun _ H' => Q .non H', rt := Q } (L2.start n_law_words vs) H := by
  obtain ⟨u, rfl, q⟩ := h
  unfold t_law_words
  show tSeq _ _ _ [none] H
  walk_at "go"
  rename_i s1 ns1 s2 ns2 s3 ns3 s4 ns4 s5 ns5
  exact q _ s5 (by walk_at "keep") (by walk_at "free") upd_same
end LW
end
section
namespace LW
open CM
open PySem.PyData (strOk)
variable {K : PySem.W.Frag} {w : World} {mg : Str → Option Value} {A : Adr}
theorem Pot.draw {H H' : Hp} {p g l k : Addr} (P : Pot H p g l k) (kp : Keep [p, g] H H') (b : Box H' p g l) : Pot H' p g l k := by
  obtain ⟨ws, h, r⟩ := P.kn
  exact ⟨b, ⟨ws, kp _ _ h (by simp [P.np, P.ng]), r⟩, P.np, P.ng, P.nl⟩
theorem Pot.keep {H H' : Hp} {p g l k : Addr} (P : Pot H p g l k) (kp : Keep [] H H') : Pot H' p g l k := by
  obtain ⟨ws, h, r⟩ := P.kn
  exact ⟨P.box.keep kp (by simp) (by simp) (by simp), ⟨ws, kp _ _ h (by simp), r⟩, P.np, P.ng, P.nl⟩
theorem keep2 {p g k : Addr} {H H' : Hp} (h : Keep [p, g] H H') : Keep [p, g, k] H H' := h.mono fun x hx => by
  simp only [List.mem_cons, List.not_mem_nil, or_false] at hx ⊢
  rcases hx with h | h
  · exact Or.inl h
  · exact Or.inr (Or.inl h)
theorem keep0 {S : List Addr} {H H' : Hp} (h : Keep [] H H') : Keep S H H' := h.mono fun x hx => by simp at hx
theorem word_at {ws : List Str} (h : ∀ w ∈ ws, WordOk w) {r : Int} (h0 : 0 ≤ r) (h1 : r < ws.length) : ∃ s, atI (ws.map V.str) r = some (.str s) ∧ WordOk s := by
  have hlt : r.toNat < ws.length := by omega
  refine ⟨ws[r.toNat], at_of (j := r.toNat) (by omega) (by rw [List.getElem?_map, List.getElem?_eq_getElem hlt]; rfl), h _ (List.getElem_mem hlt)⟩
theorem at_nat {α : Type} {xs : List α} {r : Int} {c : α} (h0 : 0 ≤ r) (h : xs[r.toNat]? = some c) : atI xs r = some c := by
  obtain ⟨j, rfl⟩ := Int.eq_ofNat_of_zero_le h0
  exact atI_nat (by simpa using h)
theorem first_sign {s : Str} (h : 1 ≤ s.length) (ok : strOk s = true) : ∃ c, atI s.cps.toList 0 = some c ∧ strOk ⟨#[c]⟩ = true := by
  have hlt : 0 < s.cps.toList.length := by rw [Array.length_toList]; exact h
  exact ⟨s.cps.toList[0], atI_nat (j := 0) (List.getElem?_eq_getElem hlt), sign_ok ok (List.getElem_mem hlt)⟩
abbrev abc : Str := "abcdefghijklmnopqrstuvwxyz"
theorem abc_len : abc.cps.toList.length = 26 := by decide +kernel
theorem abc_ok : strOk abc = true := by decide +kernel
theorem abc_at {r : Int} (h0 : 0 ≤ r) (h1 : r < 26) : ∃ c, atI abc.cps.toList r = some c ∧ strOk ⟨#[c]⟩ = true := by
  have hlt : r.toNat < abc.cps.toList.length := by rw [abc_len]; omega
  exact ⟨abc.cps.toList[r.toNat], at_nat h0 (List.getElem?_eq_getElem hlt), sign_ok abc_ok (List.getElem_mem hlt)⟩
theorem Box.there {H : Hp} {p g l : Addr} (b : Box H p g l) : (∃ o, H p = some o) ∧ (∃ o, H g = some o) ∧ ∃ o, H l = some o := by
  obtain ⟨gs, ls, a, b, h1, h2, h3, r⟩ := b
  exact ⟨⟨_, h1⟩, ⟨_, h2⟩, ⟨_, h3⟩⟩
/-- a new address is none of the box's -/
theorem Box.off {H : Hp} {p g l d : Addr} (b : Box H p g l) (h : H d = none) : d ∉ [p, g] := by
  obtain ⟨⟨o1, h1⟩, ⟨o2, h2⟩, _⟩ := b.there
  simp only [List.mem_cons, List.not_mem_nil, or_false, not_or]
  exact ⟨fun e => (by subst e; rw [h1] at h; cases h), fun e => (by subst e; rw [h2] at h; cases h)⟩
theorem Pot.off {H : Hp} {p g l k d : Addr} (P : Pot H p g l k) (h : H d = none) : d ∉ [p, g, k] := by
  have := P.box.off h
  obtain ⟨ws, hk, _⟩ := P.kn
  simp only [List.mem_cons, List.not_mem_nil, or_false, not_or] at this ⊢
  exact ⟨this.1, this.2, fun e => by subst e; rw [hk] at h; cases h⟩
theorem Box.new {H : Hp} {p g l d : Addr} {o : HO} (b : Box H p g l) (h : H d = none) : Box (upd H d o) p g l := b.keep (Keep.new (S := []) h) (by simp) (by simp) (by simp)
theorem rd_law_word {vs H Q E} (T : Txt K w mg A) (h : sp_law_word K vs H Q E) : t_law_word K w A { nx := fun _ H' => Q .non H', rt := Q } (L2.start n_law_word vs) H := by
  obtain ⟨p, g, l, k, rfl, P, q⟩ := h
  unfold t_law_word
  show tSeq _ _ _ [some (V.ref p), some (V.ref k), none, none, none, none, none, none] H
  walk_at "go"
  refine ⟨p, g, l, 8, rfl, P.box, by omega, by omega, fun pick H1 p0 p1 k1 B1 => ?_⟩
  have P1 := P.draw k1 B1
  obtain ⟨ws, hk, hw, hl⟩ := P1.kn
  have kk1 := keep2 (k := k) k1
  -- if known and pick < 2
  dsimp only
  refine seq_rest (fun σ' H' => ∃ a b c d : Option V, σ' = [some (V.ref p), some (V.ref k), some (V.str abc), some (V.int pick), a, b, c, d] ∧ Keep [p, g, k] H H' ∧ Pot H' p g l k) ?_ (fun rest => ?_)
  case refine_2 =>
    refine go_ifS (go_tAnd (go_truth (go_var rfl ⟨_, Or.inl ⟨_, sqL hk, rfl⟩, ?_⟩)))
    cases e0 : ws with
    | nil =>
      show if false = true then _ else _
      refine go_iteF (go_iteF (go_next (rest _ _ ⟨none, none, none, none, rfl, kk1, P1⟩)))
    | cons x xs =>
      rw [← e0]
      have hne : ((ws.map V.str).isEmpty) = false := by rw [e0]; rfl
      rw [hne]
      refine go_iteT ?_
      walk_at "ex"
      refine go_ite (fun h2 => ?_) (fun h2 => ?_)
      · walk_at "go"
        refine ⟨p, g, l, _, rfl, B1, ?_, ?_, fun r H2 r0 r1 k2 B2 => ?_⟩
        · rw [List.length_map, e0, List.length_cons]; omega
        · rw [List.length_map]; omega
        have P2 := P1.draw k2 B2
        have kk2 := kk1.trans (keep2 (k := k) k2)
        have hk2 : H2 k = some (.lst (ws.map V.str)) := k2 _ _ hk (by simp [P.np, P.ng])
        rw [List.length_map] at r1
        obtain ⟨s, es, os⟩ := word_at hw r0 r1
        refine go_ixL (sqL hk2) es ?_
        walk_at "go"
        exact q s H2 os kk2 P2
      · exact go_next (rest _ _ ⟨none, none, none, none, rfl, kk1, P1⟩)
  clear hk hw hl ws P1 B1 kk1 k1
  rintro σ' H1 ⟨a, b, c, d, rfl, kk1, P1⟩
  walk_at "go"
  refine ⟨p, g, l, 12, rfl, P1.box, by omega, by omega, fun size H2 s0 s1 k2 B2 => ?_⟩
  have P2 := P1.draw k2 B2
  have kk2 := kk1.trans (keep2 (k := k) k2)
  walk_at "go"
  refine ⟨_, rfl, by omega, by omega, ?_⟩
  refine go_lcR (fun Dn i H' => ∃ ts : List Str, H' Dn = some (.lst (ts.map V.str)) ∧ ts.length = i ∧ (∀ t ∈ ts, t.length = 1 ∧ strOk t = true) ∧ (∀ x o, H2 x = some o → x ∉ [p, g] → H' x = some o) ∧ Box H' p g l) (fun Dn hD => ?_) (fun Dn i H' hD hi p => ?_) (fun Dn H' hD p => ?_)
  · exact ⟨[], upd_same, rfl, by simp, fun x o e n => Keep.new (S := []) hD x o e (by simp), B2.new hD⟩
  · obtain ⟨ts, h1, h2, h3, h4, h5⟩ := p
    refine ⟨rfl, ?_⟩
    refine go_yes ?_
    rw [if_pos rfl]
    walk_at "go"
    refine ⟨p, g, l, 26, rfl, h5, by omega, by omega, fun r H3 r0 r1 k3 B3 => ?_⟩
    obtain ⟨c, hc, oc⟩ := abc_at r0 r1
    have nd : Dn ∉ [p, g] := B2.off hD
    refine go_ixS (by decide +kernel) hc ⟨_, k3 _ _ h1 nd, ?_, ts ++ [⟨#[c]⟩], ?_, ?_, ?_, ?_, ?_⟩
    · rw [List.length_map, h2]; exact szL (by omega)
    · rw [upd_same, List.map_append]; rfl
    · rw [List.length_append, h2]; rfl
    · intro t ht
      rcases List.mem_append.1 ht with m | m
      · exact h3 t m
      · have := List.mem_singleton.1 m; subst this; exact ⟨rfl, oc⟩
    · intro x o e n
      rw [upd_ne (ne_of_none e hD)]
      exact k3 _ _ (h4 x o e n) n
    · exact B3.keep (S := [Dn]) (Keep.put (by simp)) (by simp; exact fun e => nd (by simp [e])) (by simp; exact fun e => nd (by simp [e])) (by
        simp; intro e
        obtain ⟨_, _, o, ho⟩ := B2.there
        rw [e, hD] at ho; cases ho)
  obtain ⟨ts, h1, h2, h3, h4, h5⟩ := p
  have k3 : Keep [p, g] H2 H' := h4
  have P3 := P2.draw k3 h5
  have kk3 := kk2.trans (keep2 (k := k) k3)
  clear h4 h5
  obtain ⟨jl, jo⟩ := join_signs h3
  have W0 : WordOk (Txt.join "" ts) := ⟨by rw [jl, h2]; omega, by rw [jl, h2]; omega, jo⟩
  have js : ∀ l : List Str, (∀ t ∈ l, t.length = 1 ∧ strOk t = true) → (l.map (·.length)).sum = l.length := by
    intro l hl
    induction l with
    | nil => rfl
    | cons t l ih => rw [List.map_cons, List.sum_cons, ih fun x hx => hl x (by simp [hx]), (hl t (by simp)).1, List.length_cons]; omega
  walk_at "go"
  refine go_join (sqL h1) (by rw [js ts h3]; show ts.length + ts.length * 0 ≤ _; omega) ?_
  generalize Txt.join "" ts = word at W0
  clear h1 h2 h3 jl jo js hD B2 P2 kk2 k2 k3
  dsimp only
  -- if known and pick == 2
  refine seq_rest (fun σ' H' => ∃ (wd : Str) (c : Option V), σ' = [some (V.ref p), some (V.ref k), some (V.str abc), some (V.int pick), some (V.int (1 + size)), some (V.str wd), c, d] ∧ WordOk wd ∧ Keep [p, g, k] H H' ∧ Pot H' p g l k) ?_ (fun rest => ?_)
  case refine_2 =>
    obtain ⟨ws, hk, hw, hl⟩ := P3.kn
    refine go_ifS (go_tAnd (go_truth (go_var rfl ⟨_, Or.inl ⟨_, sqL hk, rfl⟩, ?_⟩)))
    cases e0 : ws with
    | nil =>
      show if false = true then _ else _
      exact go_iteF (go_iteF (go_next (rest _ _ ⟨word, c, rfl, W0, kk3, P3⟩)))
    | cons x xs =>
      rw [← e0]
      have hne : ((ws.map V.str).isEmpty) = false := by rw [e0]; rfl
      rw [hne]
      refine go_iteT ?_
      walk_at "ex"
      refine go_ite (fun h2 => ?_) (fun h2 => ?_)
      · refine go_seq ?_
        refine go_asgN ?_
        walk_at "ex"
        refine ⟨p, g, l, _, rfl, P3.box, ?_, ?_, fun r H2 r0 r1 k2 B2 => ?_⟩
        · rw [List.length_map, e0, List.length_cons]; omega
        · rw [List.length_map]; omega
        have P2 := P3.draw k2 B2
        have kk2 := kk3.trans (keep2 (k := k) k2)
        have hk2 : H2 k = some (.lst (ws.map V.str)) := k2 _ _ hk (by simp [P.np, P.ng])
        rw [List.length_map] at r1
        obtain ⟨s, es, os⟩ := word_at hw r0 r1
        refine go_ixL (sqL hk2) es ?_
        dsimp only
        refine go_ifS ?_
        walk_at "ex"
        refine go_lenS (sz (by have := os.hi; omega)) ?_
        walk_at "ex"
        refine go_ite (fun h3 => ?_) (fun h3 => ?_)
        · obtain ⟨ch, ec, oc⟩ := first_sign W0.lo W0.ok
          refine go_asgN ?_
          walk_at "ex"
          refine go_ixS (sz (by have := W0.hi; omega)) ec ?_
          have l1 : (⟨#[ch]⟩ : Str).length = 1 := rfl
          refine go_addS (sz (by rw [l1]; omega)) ?_
          refine rest _ _ ⟨_, some (.str s), rfl, ⟨by rw [len_append]; omega, by rw [len_append, l1]; omega, strOk_append os.ok oc⟩, kk2, P2⟩
        · exact go_next (rest _ _ ⟨word, some (.str s), rfl, W0, kk2, P2⟩)
      · exact go_next (rest _ _ ⟨word, c, rfl, W0, kk3, P3⟩)
  clear W0 kk3 P3
  rintro σ' H' ⟨word, c, rfl, W0, kk3, P3⟩
  -- if pick == 3
  refine seq_rest (fun σ' H' => ∃ (wd : Str), σ' = [some (V.ref p), some (V.ref k), some (V.str abc), some (V.int pick), some (V.int (1 + size)), some (V.str wd), c, d] ∧ WordOk wd ∧ Keep [p, g, k] H H' ∧ Pot H' p g l k) ?_ (fun rest => ?_)
  case refine_2 =>
    refine go_ifS ?_
    walk_at "ex"
    refine go_ite (fun h2 => ?_) (fun h2 => ?_)
    · refine go_asgN ?_
      walk_at "ex"
      refine ⟨(), rfl, fun H2 lw ws k2 n2 h2 hl hw => ?_⟩
      have P2 := P3.keep k2
      walk_at "ex"
      refine ⟨p, g, l, 21, rfl, P2.box, by omega, by omega, fun r H3 r0 r1 k3 B3 => ?_⟩
      have h3 : H3 lw = some (.lst (ws.map V.str)) := k3 _ _ h2 (P3.box.off n2)
      have hlt : r.toNat < ws.length := by omega
      refine go_ixL (sqL h3) (v := .str ws[r.toNat]) (at_nat r0 (by rw [List.getElem?_map, List.getElem?_eq_getElem hlt]; rfl)) ?_
      have hw' := hw _ (List.getElem_mem hlt)
      generalize ws[r.toNat] = s at hw'
      obtain ⟨ch, ec, oc⟩ := first_sign W0.lo W0.ok
      walk_at "ex"
      refine go_ixS (sz (by have := W0.hi; omega)) ec ?_
      have l1 : (⟨#[ch]⟩ : Str).length = 1 := rfl
      refine go_addS (sz (by rw [l1]; omega)) ?_
      refine rest _ _ ⟨_, rfl, ⟨by rw [len_append]; omega, by rw [len_append, l1]; omega, strOk_append hw'.1 oc⟩, (kk3.trans (keep0 k2)).trans (keep2 (k := k) k3), P2.draw k3 B3⟩
    · exact go_next (rest _ _ ⟨word, rfl, W0, kk3, P3⟩)
  clear W0 kk3 P3
  rintro σ' H' ⟨word, rfl, W0, kk3, P3⟩
  -- if word in reserved
  refine seq_rest (fun σ' H' => ∃ (wd : Str), σ' = [some (V.ref p), some (V.ref k), some (V.str abc), some (V.int pick), some (V.int (1 + size)), some (V.str wd), c, d] ∧ WordOk wd ∧ Keep [p, g, k] H H' ∧ Pot H' p g l k) ?_ (fun rest => ?_)
  case refine_2 =>
    refine go_ifS ?_
    walk_at "ex"
    refine ⟨(), rfl, fun H2 lw ws k2 n2 h2 hl hw => ?_⟩
    have P2 := P3.keep k2
    walk_at "ex"
    refine go_ite (fun h3 => ?_) (fun h3 => ?_)
    · refine go_asgN ?_
      walk_at "ex"
      have hw' := hw _ h3
      have l1 : ("q" : Str).length = 1 := by decide +kernel
      have oq : strOk "q" = true := by decide +kernel
      refine go_addS (sz (by rw [l1]; omega)) ?_
      refine rest _ _ ⟨_, rfl, ⟨by rw [len_append]; omega, by rw [len_append, l1]; omega, strOk_append hw'.1 oq⟩, kk3.trans (keep0 k2), P2⟩
    · exact go_next (rest _ _ ⟨word, rfl, W0, kk3.trans (keep0 k2), P2⟩)
  clear W0 kk3 P3
  rintro σ' H' ⟨word, rfl, W0, kk3, P3⟩
  obtain ⟨ws, hk, hw, hl⟩ := P3.kn
  walk_at "go"
  refine go_ite (fun h3 => ?_) (fun h3 => ?_)
  · rw [List.length_map] at h3
    walk_at "go"
    refine go_iteN (fun h4 => ?_) (fun h4 => ?_)
    · walk_at "go"
      refine q word _ W0 (kk3.trans (Keep.put (by simp))) ⟨P3.box.keep (S := [k]) (Keep.put (by simp)) (by simp; exact fun e => P3.np e.symm) (by simp; exact fun e => P3.ng e.symm) (by simp; exact fun e => P3.nl e.symm), ⟨ws ++ [word], by rw [upd_same, List.map_append]; rfl, ?_, by rw [List.length_append, List.length_singleton]; omega⟩, P3.np, P3.ng, P3.nl⟩
      intro x hx
      rcases List.mem_append.1 hx with m | m
      · exact hw x m
      · have := List.mem_singleton.1 m; subst this; exact W0
    · walk_at "go"
      exact q word _ W0 kk3 P3
  · walk_at "go"
    exact q word _ W0 kk3 P3
theorem rd_law_value {vs H Q E} (T : Txt K w mg A) (h : sp_law_value K vs H Q E) : t_law_value K w A { nx := fun _ H' => Q .non H', rt := Q } (L2.start n_law_value vs) H := by
  obtain ⟨p, g, l, k, rfl, P, q⟩ := h
  unfold t_law_value
  show tSeq _ _ _ [some (V.ref p), some (V.ref k), none] H
  walk_at "go"
  refine ⟨p, g, l, 5, rfl, P.box, by omega, by omega, fun pick H1 p0 p1 k1 B1 => ?_⟩
  have P1 := P.draw k1 B1
  have kk1 := keep2 (k := k) k1
  walk_at "go"
  refine go_ite (fun h1 => ?_) (fun h1 => ?_)
  · walk_at "go"
    exact q _ .none H1 .non rfl rfl (by simp [PyData.depth]) kk1 P1
  walk_at "go"
  refine go_ite (fun h2 => ?_) (fun h2 => ?_)
  · walk_at "go"
    refine ⟨p, g, l, k, rfl, P1, fun wd H2 W k2 P2 => ?_⟩
    walk_at "go"
    rename_i t nt
    refine q _ (.tuple [.str "fn", .str wd]) _ (.tup (sqT upd_same) (.cons (.str _) (.cons (.str _) .nil))) rfl ?_ (by simp [PyData.depth, PyData.depthAll]) ((kk1.trans k2).trans (Keep.new nt)) (P2.keep (Keep.new nt))
    have o1 : strOk "fn" = true := by decide +kernel
    simp [gd, gdA, o1, W.ok]
  walk_at "go"
  refine go_ite (fun h3 => ?_) (fun h3 => ?_)
  · walk_at "go"
    refine ⟨"abc", 20, rfl, rfl, by decide, by decide, by decide +kernel, by decide +kernel, ?_⟩
    have ok4 : ∀ t ∈ (["", "nil", "x = 1;", repS "abc" (20 : Int).toNat] : List Str), strOk t = true := by decide +kernel
    generalize repS "abc" (20 : Int).toNat = long at ok4
    walk_at "go"
    rename_i lw nlw
    have P1' := P1.keep (Keep.new (o := .lst ((["", "nil", "x = 1;", long] : List Str).map V.str)) nlw)
    refine ⟨p, g, l, 4, rfl, P1'.box, by omega, by omega, fun r H2 r0 r1 k2 B2 => ?_⟩
    have h4 : H2 lw = some (.lst ((["", "nil", "x = 1;", long] : List Str).map V.str)) := k2 _ _ upd_same (P1.box.off nlw)
    have hlt : r.toNat < (["", "nil", "x = 1;", long] : List Str).length := by simp; omega
    refine go_ixL (sqL h4) (v := .str (["", "nil", "x = 1;", long] : List Str)[r.toNat]) (at_nat r0 (by rw [List.getElem?_map, List.getElem?_eq_getElem hlt]; rfl)) ?_
    have o4 := ok4 _ (List.getElem_mem hlt)
    walk_at "go"
    exact q _ (.str _) H2 (.str _) rfl o4 (by simp [PyData.depth]) ((kk1.trans (Keep.new nlw)).trans (keep2 k2)) (P1'.draw k2 B2)
  · walk_at "go"
    refine ⟨p, g, l, _, rfl, P1.box, by decide, by decide, fun r H2 r0 r1 k2 B2 => ?_⟩
    walk_at "go"
    exact q _ (.int r) H2 (.int r) rfl rfl (by simp [PyData.depth]) (kk1.trans (keep2 k2)) (P1.draw k2 B2)
end LW
end
section
namespace LW
open CM
open PySem.PyData (strOk)
variable {K : PySem.W.Frag} {w : World} {mg : Str → Option Value} {A : Adr}
theorem noL_ints : ∀ g : List Int, noL.noLA (intsD g) = true
  | [] => rfl
  | x :: g => by
    show (noL (.int x) && noL.noLA (intsD g)) = true
    rw [noL_ints g]; rfl
theorem dp_given {H : Hp} {t : Addr} {g : List Int} (h : H t = some (.tup (g.map V.int))) : Dp K H (.ref t) (.tuple (intsD g)) := .tup (sqT h) (dpAll_ints g)
/-- where the drawn parts of a row stand -/
structure Rst (H H' : Hp) (p g l k t : Addr) (gv : List Int) : Prop where
  kk : Keep [p, g, k] H H'
  P : Pot H' p g l k
  t_ : H' t = some (.tup (gv.map V.int))
theorem Rst.new {H H' : Hp} {p g l k t d : Addr} {gv : List Int} {o : HO} (S : Rst H H' p g l k t gv) (n : H' d = none) : Rst H (upd H' d o) p g l k t gv :=
  ⟨S.kk.trans (Keep.new n), S.P.keep (Keep.new n), Keep.new (S := []) n _ _ S.t_ (by simp)⟩
theorem Rst.draw {H H' H2 : Hp} {p g l k t : Addr} {gv : List Int} (S : Rst H H' p g l k t gv) (k2 : Keep [p, g] H' H2) (B : Box H2 p g l) : Rst H H2 p g l k t gv := by
  refine ⟨S.kk.trans (keep2 k2), S.P.draw k2 B, k2 _ _ S.t_ fun m => ?_⟩
  obtain ⟨gs, ls, a, b, h1, h2, h3, _⟩ := S.P.box
  simp only [List.mem_cons, List.not_mem_nil, or_false] at m
  rcases m with e | e
  · have := S.t_; rw [e, h1] at this; cases this
  · have := S.t_; rw [e, h2] at this; cases this
theorem Rst.pot {H H' H2 : Hp} {p g l k t : Addr} {gv : List Int} (S : Rst H H' p g l k t gv) (k2 : Keep [p, g, k] H' H2) (P : Pot H2 p g l k) : Rst H H2 p g l k t gv := by
  refine ⟨S.kk.trans k2, P, k2 _ _ S.t_ fun m => ?_⟩
  obtain ⟨gs, ls, a, b, h1, h2, h3, _⟩ := S.P.box
  obtain ⟨ws, hk, _⟩ := S.P.kn
  simp only [List.mem_cons, List.not_mem_nil, or_false] at m
  rcases m with e | e | e
  · have := S.t_; rw [e, h1] at this; cases this
  · have := S.t_; rw [e, h2] at this; cases this
  · have := S.t_; rw [e, hk] at this; cases this
theorem rd_law_row {vs H Q E} (T : Txt K w mg A) (h : sp_law_row K vs H Q E) : t_law_row K w A { nx := fun _ H' => Q .non H', rt := Q } (L2.start n_law_row vs) H := by
  obtain ⟨p, g, l, k, word, many, size, rfl, P, hword, s1, s2, m1, m2, q⟩ := h
  unfold t_law_row
  show tSeq _ _ _ [some (V.ref p), some (V.str word), some (V.int many), some (V.int size), some (V.ref k), none, none, none, none, none, none, none] H
  walk_at "go"
  refine ⟨p, g, l, size, rfl, P.box, s1, by omega, fun a H1 a0 a1 k1 B1 => ?_⟩
  have P1 := P.draw k1 B1
  have kk1 := keep2 (k := k) k1
  clear k1 B1
  walk_at "go"
  refine ⟨p, g, l, size, rfl, P1.box, s1, by omega, fun b H2 b0 b1 k2 B2 => ?_⟩
  have P2 := P1.draw k2 B2
  have kk2 := kk1.trans (keep2 (k := k) k2)
  clear k2 B2 kk1 P1
  walk_at "go"
  refine ⟨p, g, l, size, rfl, P2.box, s1, by omega, fun c H3 c0 c1 k3 B3 => ?_⟩
  have P3 := P2.draw k3 B3
  have kk3 := kk2.trans (keep2 (k := k) k3)
  clear k3 B3 kk2 P2
  walk_at "go"
  refine ⟨p, g, l, k, rfl, P3, fun name H4 W k4 P4 => ?_⟩
  have kk4 := kk3.trans k4
  clear k4 kk3 P3
  walk_at "go"
  rename_i ln nln
  have kk5 : Keep [p, g, k] H (upd H4 ln (.lst ([0, 1, 2, 3, 5].map V.int))) := kk4.trans (Keep.new nln)
  have P5 : Pot (upd H4 ln (.lst ([0, 1, 2, 3, 5].map V.int))) p g l k := P4.keep (Keep.new nln)
  refine ⟨p, g, l, 5, rfl, P5.box, by omega, by omega, fun r H6 r0 r1 k6 B6 => ?_⟩
  have h6 : H6 ln = some (.lst (([0, 1, 2, 3, 5] : List Int).map V.int)) := k6 _ _ upd_same (P4.box.off nln)
  have P6 := P5.draw k6 B6
  have kk6 := kk5.trans (keep2 (k := k) k6)
  clear k6 B6 kk5 P5 kk4 P4
  have hlt : r.toNat < ([0, 1, 2, 3, 5] : List Int).length := by simp; omega
  refine go_ixL (sqL h6) (v := .int ([0, 1, 2, 3, 5] : List Int)[r.toNat]) (at_nat r0 (by rw [List.getElem?_map, List.getElem?_eq_getElem hlt]; rfl)) ?_
  obtain ⟨n, en, n0, n5⟩ : ∃ n : Int, ([0, 1, 2, 3, 5] : List Int)[r.toNat] = n ∧ 0 ≤ n ∧ n ≤ 5 := by
    refine ⟨_, rfl, ?_⟩
    have : ∀ x ∈ ([0, 1, 2, 3, 5] : List Int), 0 ≤ x ∧ x ≤ 5 := by decide
    exact this _ (List.getElem_mem hlt)
  rw [en]
  clear h6 nln en hlt
  walk_at "go"
  refine ⟨_, rfl, by omega, by omega, ?_⟩
  refine go_lcR (fun Dn i H' => ∃ gv : List Int, H' Dn = some (.lst (gv.map V.int)) ∧ gv.length = i ∧ (∀ x ∈ gv, Sl size x) ∧ (∀ x o, H6 x = some o → x ∉ [p, g] → H' x = some o) ∧ Box H' p g l) (fun Dn hD => ?_) (fun Dn i H' hD hi pv => ?_) (fun Dn H' hD pv => ?_)
  · exact ⟨[], upd_same, rfl, by simp, fun x o e n => Keep.new (S := []) hD x o e (by simp), P6.box.new hD⟩
  · obtain ⟨gv, h1, h2, h3, h4, h5⟩ := pv
    refine ⟨rfl, go_yes ?_⟩
    rw [if_pos rfl]
    walk_at "go"
    refine ⟨p, g, l, size, rfl, h5, s1, by omega, fun r H3 r0 r1 k3 B3 => ?_⟩
    have nd : Dn ∉ [p, g] := P6.box.off hD
    have nl : l ∉ [Dn] := by
      simp; intro e
      obtain ⟨_, _, o, ho⟩ := P6.box.there
      rw [e, hD] at ho; cases ho
    refine ⟨_, k3 _ _ h1 nd, ?_, gv ++ [r], ?_, ?_, ?_, ?_, ?_⟩
    · rw [List.length_map, h2]; exact szL (by omega)
    · rw [upd_same, List.map_append]; rfl
    · rw [List.length_append, h2]; rfl
    · intro t ht
      rcases List.mem_append.1 ht with m | m
      · exact h3 t m
      · have := List.mem_singleton.1 m; subst this; exact ⟨r0, r1⟩
    · intro x o e n
      rw [upd_ne (ne_of_none e hD)]
      exact k3 _ _ (h4 x o e n) n
    · exact B3.keep (S := [Dn]) (Keep.put (by simp)) (by simp; exact fun e => nd (by simp [e])) (by simp; exact fun e => nd (by simp [e])) nl
  obtain ⟨gv, h1, h2, h3, h4, h5⟩ := pv
  have k7 : Keep [p, g] H6 H' := h4
  have P7 := P6.draw k7 h5
  have kk7 := kk6.trans (keep2 (k := k) k7)
  have g5 : gv.length ≤ 5 := by rw [h2]; omega
  clear h4 h5 k7 P6 kk6 hD
  walk_at "ex"
  refine go_tupL (sqL h1) (fun t nt => ?_)
  have S : Rst H (upd H' t (.tup (gv.map V.int))) p g l k t gv := ⟨kk7.trans (Keep.new nt), P7.keep (Keep.new nt), upd_same⟩
  generalize upd H' t (.tup (gv.map V.int)) = H8 at S
  clear nt h1 h2 P7 kk7
  have sa : Sl size a := ⟨a0, a1⟩
  have sb : Sl size b := ⟨b0, b1⟩
  have sc : Sl size c := ⟨c0, c1⟩
  have wk := W.ok
  walk_at "go"
  refine go_ite (fun e => ?_) (fun e => ?_)
  · subst e
    walk_at "go"
    refine ⟨p, g, l, k, rfl, S.P, fun v d H2 hv hn hg hd k2 P2 => ?_⟩
    have S2 := S.pot k2 P2
    walk_at "go"
    rename_i rt nrt
    exact q rt (.const a d) _ (S2.new nrt).kk (S2.new nrt).P ⟨.tup (sqT upd_same) (.cons (.str _) (.cons (.int _) (.cons (dp_keep (Keep.new nrt) _ _ hv) .nil))), by simp [Ins.data, noL, noL.noLA, hn]⟩ ⟨sa, hg, hd⟩ rfl
  walk_at "go"
  rename_i li nli
  have S1 := S.new (o := .lst [.str "move", .str "not", .str "array", .str "len"]) nli
  refine go_inS (ws := ["move", "not", "array", "len"]) (sqL upd_same) ?_
  clear S nli
  generalize upd _ li (.lst _) = Hn at S1
  have S := S1
  clear S1
  walk_at "ex"
  refine go_ite (fun e => ?_) (fun e => ?_)
  · simp only [List.mem_cons, List.not_mem_nil, or_false] at e
    walk_at "go"
    rename_i rt nrt
    exact q rt (.two word a b) _ (S.new nrt).kk (S.new nrt).P ⟨.tup (sqT upd_same) (.cons (.str _) (.cons (.int _) (.cons (.int _) .nil))), by simp [Ins.data, noL, noL.noLA]⟩ ⟨e, sa, sb⟩ rfl
  walk_at "go"
  refine go_ite (fun e => ?_) (fun e => ?_)
  · subst e
    walk_at "go"
    rename_i lo nlo
    have S1 := S.new (o := .lst ((["add", "div", "eq", "le", "lt", "mod", "mul", "sub"] : List Str).map V.str)) nlo
    refine ⟨p, g, l, 8, rfl, S1.P.box, by omega, by omega, fun r2 H2 x0 x1 k2 B2 => ?_⟩
    have h8 : H2 lo = some (.lst ((["add", "div", "eq", "le", "lt", "mod", "mul", "sub"] : List Str).map V.str)) := k2 _ _ upd_same (S.P.box.off nlo)
    have S2 := S1.draw k2 B2
    have hlt : r2.toNat < (["add", "div", "eq", "le", "lt", "mod", "mul", "sub"] : List Str).length := by simp; omega
    refine go_ixL (sqL h8) (v := .str (["add", "div", "eq", "le", "lt", "mod", "mul", "sub"] : List Str)[r2.toNat]) (at_nat x0 (by rw [List.getElem?_map, List.getElem?_eq_getElem hlt]; rfl)) ?_
    obtain ⟨opn, eo, oo⟩ : ∃ s : Str, (["add", "div", "eq", "le", "lt", "mod", "mul", "sub"] : List Str)[r2.toNat] = s ∧ strOk s = true := by
      refine ⟨_, rfl, ?_⟩
      have : ∀ x ∈ (["add", "div", "eq", "le", "lt", "mod", "mul", "sub"] : List Str), strOk x = true := by decide +kernel
      exact this _ (List.getElem_mem hlt)
    rw [eo]
    walk_at "go"
    rename_i rt nrt
    exact q rt (.op opn a b c) _ (S2.new nrt).kk (S2.new nrt).P ⟨.tup (sqT upd_same) (.cons (.str _) (.cons (.str _) (.cons (.int _) (.cons (.int _) (.cons (.int _) .nil))))), by simp [Ins.data, noL, noL.noLA]⟩ ⟨oo, sa, sb, sc⟩ rfl
  walk_at "go"
  refine go_ite (fun e => ?_) (fun e => ?_)
  · subst e
    walk_at "go"
    refine ⟨p, g, l, many, rfl, S.P.box, m1, by omega, fun r2 H2 x0 x1 k2 B2 => ?_⟩
    have S2 := S.draw k2 B2
    walk_at "go"
    rename_i rt nrt
    exact q rt (.jump r2) _ (S2.new nrt).kk (S2.new nrt).P ⟨.tup (sqT upd_same) (.cons (.str _) (.cons (.int _) .nil)), by simp [Ins.data, noL, noL.noLA]⟩ ⟨x0, x1⟩ rfl
  walk_at "go"
  refine go_ite (fun e => ?_) (fun e => ?_)
  · subst e
    walk_at "go"
    refine ⟨p, g, l, many, rfl, S.P.box, m1, by omega, fun r2 H2 x0 x1 k2 B2 => ?_⟩
    have S2 := S.draw k2 B2
    walk_at "go"
    rename_i rt nrt
    exact q rt (.branch a r2) _ (S2.new nrt).kk (S2.new nrt).P ⟨.tup (sqT upd_same) (.cons (.str _) (.cons (.int _) (.cons (.int _) .nil))), by simp [Ins.data, noL, noL.noLA]⟩ ⟨sa, x0, x1⟩ rfl
  walk_at "go"
  rename_i li nli
  have S1 := S.new (o := .lst [.str "getg", .str "new", .str "drop"]) nli
  refine go_inS (ws := ["getg", "new", "drop"]) (sqL upd_same) ?_
  clear S nli
  generalize upd _ li (.lst _) = Hn at S1
  have S := S1
  clear S1
  walk_at "ex"
  refine go_ite (fun e => ?_) (fun e => ?_)
  · simp only [List.mem_cons, List.not_mem_nil, or_false] at e
    walk_at "go"
    rename_i rt nrt
    exact q rt (.nam word a name) _ (S.new nrt).kk (S.new nrt).P ⟨.tup (sqT upd_same) (.cons (.str _) (.cons (.int _) (.cons (.str _) .nil))), by simp [Ins.data, noL, noL.noLA]⟩ ⟨e, sa, wk⟩ rfl
  walk_at "go"
  refine go_ite (fun e => ?_) (fun e => ?_)
  · subst e
    walk_at "go"
    rename_i rt nrt
    exact q rt (.setg name a) _ (S.new nrt).kk (S.new nrt).P ⟨.tup (sqT upd_same) (.cons (.str _) (.cons (.str _) (.cons (.int _) .nil))), by simp [Ins.data, noL, noL.noLA]⟩ ⟨wk, sa⟩ rfl
  walk_at "go"
  refine go_ite (fun e => ?_) (fun e => ?_)
  · subst e
    walk_at "go"
    rename_i rt nrt
    exact q rt (.get a b name) _ (S.new nrt).kk (S.new nrt).P ⟨.tup (sqT upd_same) (.cons (.str _) (.cons (.int _) (.cons (.int _) (.cons (.str _) .nil)))), by simp [Ins.data, noL, noL.noLA]⟩ ⟨sa, sb, wk⟩ rfl
  walk_at "go"
  refine go_ite (fun e => ?_) (fun e => ?_)
  · subst e
    walk_at "go"
    rename_i rt nrt
    exact q rt (.put a name b) _ (S.new nrt).kk (S.new nrt).P ⟨.tup (sqT upd_same) (.cons (.str _) (.cons (.int _) (.cons (.str _) (.cons (.int _) .nil)))), by simp [Ins.data, noL, noL.noLA]⟩ ⟨sa, wk, sb⟩ rfl
  walk_at "go"
  rename_i li nli
  have S1 := S.new (o := .lst [.str "at", .str "setat"]) nli
  refine go_inS (ws := ["at", "setat"]) (sqL upd_same) ?_
  clear S nli
  generalize upd _ li (.lst _) = Hn at S1
  have S := S1
  clear S1
  walk_at "ex"
  refine go_ite (fun e => ?_) (fun e => ?_)
  · simp only [List.mem_cons, List.not_mem_nil, or_false] at e
    walk_at "go"
    rename_i rt nrt
    exact q rt (.three word a b c) _ (S.new nrt).kk (S.new nrt).P ⟨.tup (sqT upd_same) (.cons (.str _) (.cons (.int _) (.cons (.int _) (.cons (.int _) .nil)))), by simp [Ins.data, noL, noL.noLA]⟩ ⟨e, sa, sb, sc⟩ rfl
  walk_at "go"
  refine go_ite (fun e => ?_) (fun e => ?_)
  · subst e
    walk_at "go"
    rename_i rt nrt
    exact q rt (.call a name gv) _ (S.new nrt).kk (S.new nrt).P ⟨.tup (sqT upd_same) (.cons (.str _) (.cons (.int _) (.cons (.str _) (.cons (dpT_keep (Keep.new nrt) noT_nil _ _ (noL_ints gv) (dp_given S.t_)) .nil)))), by simp [Ins.data, noL, noL.noLA, noL_ints]⟩ ⟨sa, wk, h3, g5⟩ rfl
  walk_at "go"
  refine go_ite (fun e => ?_) (fun e => ?_)
  · subst e
    walk_at "go"
    rename_i rt nrt
    exact q rt (.callv a b gv) _ (S.new nrt).kk (S.new nrt).P ⟨.tup (sqT upd_same) (.cons (.str _) (.cons (.int _) (.cons (.int _) (.cons (dpT_keep (Keep.new nrt) noT_nil _ _ (noL_ints gv) (dp_given S.t_)) .nil)))), by simp [Ins.data, noL, noL.noLA, noL_ints]⟩ ⟨sa, sb, h3, g5⟩ rfl
  walk_at "go"
  refine go_ite (fun e => ?_) (fun e => ?_)
  · subst e
    walk_at "go"
    rename_i rt nrt
    exact q rt (.meth a b name gv) _ (S.new nrt).kk (S.new nrt).P ⟨.tup (sqT upd_same) (.cons (.str _) (.cons (.int _) (.cons (.int _) (.cons (.str _) (.cons (dpT_keep (Keep.new nrt) noT_nil _ _ (noL_ints gv) (dp_given S.t_)) .nil))))), by simp [Ins.data, noL, noL.noLA, noL_ints]⟩ ⟨sa, sb, wk, h3, g5⟩ rfl
  walk_at "go"
  refine go_ite (fun e => ?_) (fun e => ?_)
  · subst e
    walk_at "go"
    rename_i rt nrt
    exact q rt (.spawn name gv) _ (S.new nrt).kk (S.new nrt).P ⟨.tup (sqT upd_same) (.cons (.str _) (.cons (.str _) (.cons (dpT_keep (Keep.new nrt) noT_nil _ _ (noL_ints gv) (dp_given S.t_)) .nil))), by simp [Ins.data, noL, noL.noLA, noL_ints]⟩ ⟨wk, h3, g5⟩ rfl
  walk_at "go"
  refine go_ite (fun e => ?_) (fun e => ?_)
  · subst e
    walk_at "go"
    rename_i rt nrt
    exact q rt (.pause) _ (S.new nrt).kk (S.new nrt).P ⟨.tup (sqT upd_same) (.cons (.str _) .nil), by simp [Ins.data, noL, noL.noLA]⟩ trivial rfl
  walk_at "go"
  rename_i rt nrt
  refine q rt (.one word a) _ (S.new nrt).kk (S.new nrt).P ⟨.tup (sqT upd_same) (.cons (.str _) (.cons (.int _) .nil)), by simp [Ins.data, noL, noL.noLA]⟩ ⟨?_, sa⟩ rfl
  have key : ∀ x ∈ W25, ¬ x = "const" → ¬ x ∈ (["move", "not", "array", "len"] : List Str) → ¬ x = "op" → ¬ x = "jump" → ¬ x = "branch" → ¬ x ∈ (["getg", "new", "drop"] : List Str) → ¬ x = "setg" → ¬ x = "get" → ¬ x = "put" →
    ¬ x ∈ (["at", "setat"] : List Str) → ¬ x = "call" → ¬ x = "callv" → ¬ x = "method" → ¬ x = "spawn" → ¬ x = "pause" → x = "return" ∨ x = "say" ∨ x = "fail" ∨ x = "load" := by decide +kernel
  exact key word hword (by assumption) (by assumption) (by assumption) (by assumption) (by assumption) (by assumption) (by assumption) (by assumption) (by assumption) (by assumption) (by assumption) (by assumption) (by assumption) (by assumption) (by assumption)
end LW
end
section
namespace LW
open CM
open PySem.PyData (strOk)
variable {K : PySem.W.Frag} {w : World} {mg : Str → Option Value} {A : Adr}
theorem Box.noT {H : Hp} {p g l : Addr} (b : Box H p g l) : NoT H [p, g] := by
  obtain ⟨gs, ls, a, b, h1, h2, h3, _⟩ := b
  exact noT_lst h1 (noT_lst h2 noT_nil)
theorem Pot.noT {H : Hp} {p g l k : Addr} (P : Pot H p g l k) : NoT H [p, g, k] := by
  obtain ⟨gs, ls, a, b, h1, h2, h3, _⟩ := P.box
  obtain ⟨ws, hk, _⟩ := P.kn
  exact noT_lst h1 (noT_lst h2 (noT_lst hk noT_nil))
theorem RowAt.keep {H H' : Hp} {S : List Addr} {a : Addr} {i : Ins} (k : Keep S H H') (n : NoT H S) (h : RowAt K H a i) : RowAt K H' a i := ⟨dpT_keep k n _ _ h.2 h.1, h.2⟩
theorem RowsAt.keep {H H' : Hp} {S : List Addr} {l : Addr} {rows : List Ins} (k : Keep S H H') (n : NoT H S) (m : l ∉ S) (h : RowsAt K H l rows) : RowsAt K H' l rows := by
  obtain ⟨as, h1, h2⟩ := h
  exact ⟨as, k _ _ h1 m, Paired.mapP h2 fun a i e => RowAt.keep k n e⟩
theorem HandsAt.keep {H H' : Hp} {S : List Addr} {l : Addr} {hs : List Hd} (k : Keep S H H') (n : NoT H S) (m : l ∉ S) (h : HandsAt K H l hs) : HandsAt K H' l hs := by
  obtain ⟨as, h1, h2⟩ := h
  exact ⟨as, k _ _ h1 m, Paired.mapP h2 fun a i e => sqT_keep k n e⟩
/-- a code half made -/
structure Dst (K : PySem.W.Frag) (H0 H : Hp) (p g l k lr lh : Addr) (rows : List Ins) (hs : List Hd) : Prop where
  kk : Keep [p, g, k] H0 H
  P : Pot H p g l k
  rows : RowsAt K H lr rows
  hs : HandsAt K H lh hs
  n1 : H0 lr = none
  n2 : H0 lh = none
  o1 : lr ∉ [p, g, l, k]
  o2 : lh ∉ [p, g, l, k]
  ne : lr ≠ lh
theorem off3 {x p g l k : Addr} (h : x ∉ [p, g, l, k]) : x ∉ [p, g, k] := by
  simp only [List.mem_cons, List.not_mem_nil, or_false, not_or] at h ⊢
  exact ⟨h.1, h.2.1, h.2.2.2⟩
theorem off2 {x p g l k : Addr} (h : x ∉ [p, g, l, k]) : x ∉ [p, g] := by
  simp only [List.mem_cons, List.not_mem_nil, or_false, not_or] at h ⊢
  exact ⟨h.1, h.2.1⟩
theorem Pot.off4 {H : Hp} {p g l k d : Addr} (P : Pot H p g l k) (h : H d = none) : d ∉ [p, g, l, k] := by
  have := P.off h
  obtain ⟨_, _, o, ho⟩ := P.box.there
  simp only [List.mem_cons, List.not_mem_nil, or_false, not_or] at this ⊢
  exact ⟨this.1, this.2.1, fun e => (by subst e; rw [ho] at h; cases h), this.2.2⟩
theorem Dst.draw {H0 H H2 : Hp} {p g l k lr lh : Addr} {rows : List Ins} {hs : List Hd} (S : Dst K H0 H p g l k lr lh rows hs) (k2 : Keep [p, g] H H2) (B : Box H2 p g l) : Dst K H0 H2 p g l k lr lh rows hs :=
  ⟨S.kk.trans (keep2 k2), S.P.draw k2 B, S.rows.keep k2 S.P.box.noT (off2 S.o1), S.hs.keep k2 S.P.box.noT (off2 S.o2), S.n1, S.n2, S.o1, S.o2, S.ne⟩
theorem Dst.pot {H0 H H2 : Hp} {p g l k lr lh : Addr} {rows : List Ins} {hs : List Hd} (S : Dst K H0 H p g l k lr lh rows hs) (k2 : Keep [p, g, k] H H2) (P : Pot H2 p g l k) : Dst K H0 H2 p g l k lr lh rows hs :=
  ⟨S.kk.trans k2, P, S.rows.keep k2 S.P.noT (off3 S.o1), S.hs.keep k2 S.P.noT (off3 S.o2), S.n1, S.n2, S.o1, S.o2, S.ne⟩
theorem Dst.new {H0 H : Hp} {p g l k lr lh d : Addr} {rows : List Ins} {hs : List Hd} {o : HO} (S : Dst K H0 H p g l k lr lh rows hs) (n : H d = none) : Dst K H0 (upd H d o) p g l k lr lh rows hs :=
  ⟨S.kk.trans (Keep.new n), S.P.keep (Keep.new n), S.rows.keep (Keep.new n) noT_nil (by simp), S.hs.keep (Keep.new n) noT_nil (by simp), S.n1, S.n2, S.o1, S.o2, S.ne⟩
theorem Pot.put {H : Hp} {p g l k d : Addr} {o : HO} (P : Pot H p g l k) (n : d ∉ [p, g, l, k]) : Pot (upd H d o) p g l k := by
  simp only [List.mem_cons, List.not_mem_nil, or_false, not_or] at n
  obtain ⟨n1, n2, n3, n4⟩ := n
  obtain ⟨ws, hk, r⟩ := P.kn
  have kp : Keep [d] H (upd H d o) := Keep.put (by simp)
  exact ⟨P.box.keep kp (by simp; exact fun e => n1 e.symm) (by simp; exact fun e => n2 e.symm) (by simp; exact fun e => n3 e.symm), ⟨ws, kp _ _ hk (by simp; exact fun e => n4 e.symm), r⟩, P.np, P.ng, P.nl⟩
theorem Paired.snoc {α β : Type} {F : α → β → Prop} {as : List α} {bs : List β} {a : α} {b : β} (h : Paired F as bs) (e : F a b) : Paired F (as ++ [a]) (bs ++ [b]) := Paired.app h (.cons e .nil)
theorem Dst.addH {H0 H : Hp} {p g l k lr lh a : Addr} {rows : List Ins} {hs : List Hd} {h : Hd} {as : List Addr} (S : Dst K H0 H p g l k lr lh rows hs) (e : HandAt K H a h) (hl : H lh = some (.lst (as.map V.ref))) (hp : Paired (HandAt K H) as hs) :
    Dst K H0 (upd H lh (.lst (as.map V.ref ++ [.ref a]))) p g l k lr lh rows (hs ++ [h]) := by
  have kp : Keep [lh] H (upd H lh (.lst (as.map V.ref ++ [.ref a]))) := Keep.put (by simp)
  have nt : NoT H [lh] := noT_lst hl noT_nil
  refine ⟨S.kk.fresh S.n2, S.P.put S.o2, S.rows.keep kp nt (by simp; exact S.ne), ⟨as ++ [a], by rw [upd_same, List.map_append]; rfl, ?_⟩, S.n1, S.n2, S.o1, S.o2, S.ne⟩
  exact Paired.snoc (Paired.mapP hp fun a i e => sqT_keep kp nt e) (sqT_keep kp nt e)
theorem rd_law_drawn {vs H Q E} (T : Txt K w mg A) (h : sp_law_drawn K vs H Q E) : t_law_drawn K w A { nx := fun _ H' => Q .non H', rt := Q } (L2.start n_law_drawn vs) H := by
  obtain ⟨p, g, l, k, rfl, P, q⟩ := h
  unfold t_law_drawn
  show tSeq _ _ _ [some (V.ref p), some (V.ref k), none, none, none, none, none, none, none, none] H
  walk_at "go"
  refine ⟨(), rfl, fun H1 lw k1 n1 h1 => ?_⟩
  walk_at "go"
  rename_i l2 nl2
  refine go_cat (Keep.new (S := []) nl2 _ _ h1 (by simp)) upd_same (sz (by show 25 + 7 ≤ 100000; decide)) (fun l3 nl3 => ?_)
  have hws : (W25.map V.str ++ [V.str "branch", V.str "branch", V.str "branch", V.str "jump", V.str "jump", V.str "move", V.str "op"]) = (W25 ++ (["branch", "branch", "branch", "jump", "jump", "move", "op"] : List Str)).map V.str := rfl
  have hW : ∀ x ∈ W25 ++ (["branch", "branch", "branch", "jump", "jump", "move", "op"] : List Str), x ∈ W25 := by decide +kernel
  have hL : (W25 ++ (["branch", "branch", "branch", "jump", "jump", "move", "op"] : List Str)).length = 32 := by decide +kernel
  rw [hws]
  generalize (W25 ++ (["branch", "branch", "branch", "jump", "jump", "move", "op"] : List Str)) = ws at hW hL
  clear hws
  generalize hH2 : upd (upd H1 l2 _) l3 (.lst (ws.map V.str)) = H2
  have k2 : Keep [] H H2 := by subst hH2; walk_at "keep"
  have h2 : H2 l3 = some (.lst (ws.map V.str)) := by subst hH2; exact upd_same
  have nl30 : H l3 = none := by walk_at "free"
  clear hH2 nl3 nl2 h1 n1 k1
  have P2 := P.keep k2
  have kk2 : Keep [p, g, k] H H2 := keep0 k2
  have o3 := P.off4 nl30
  walk_at "go"
  refine ⟨p, g, l, 10, rfl, P2.box, by omega, by omega, fun size' H3 z0 z1 k3 B3 => ?_⟩
  have P3 := P2.draw k3 B3
  have kk3 := kk2.trans (keep2 (k := k) k3)
  have h3 := k3 _ _ h2 (off2 o3)
  clear k3 B3 P2 kk2 h2 k2
  obtain ⟨size, hsize⟩ : ∃ s, s = 1 + size' := ⟨_, rfl⟩
  have s1 : 1 ≤ size := by omega
  have s2 : size ≤ 10 := by omega
  walk_at "go"
  rw [← hsize]
  clear z0 z1 hsize size'
  rename_i lm nlm
  have P4 : Pot (upd H3 lm (.lst ([1, 2, 4, 7, 12, 28].map V.int))) p g l k := P3.keep (Keep.new nlm)
  refine ⟨p, g, l, 6, rfl, P4.box, by omega, by omega, fun r H4 r0 r1 k4 B4 => ?_⟩
  have h4 : H4 lm = some (.lst (([1, 2, 4, 7, 12, 28] : List Int).map V.int)) := k4 _ _ upd_same (P3.box.off nlm)
  have P5 := P4.draw k4 B4
  have kk4 : Keep [p, g, k] H H4 := (kk3.trans (Keep.new nlm)).trans (keep2 k4)
  have h34 : H4 l3 = some (.lst (ws.map V.str)) := k4 _ _ (Keep.new (S := []) nlm _ _ h3 (by simp)) (off2 o3)
  have hlt : r.toNat < ([1, 2, 4, 7, 12, 28] : List Int).length := by simp; omega
  refine go_ixL (sqL h4) (v := .int ([1, 2, 4, 7, 12, 28] : List Int)[r.toNat]) (at_nat r0 (by rw [List.getElem?_map, List.getElem?_eq_getElem hlt]; rfl)) ?_
  obtain ⟨n, en, n0, n5⟩ : ∃ n : Int, ([1, 2, 4, 7, 12, 28] : List Int)[r.toNat] = n ∧ 1 ≤ n ∧ n ≤ 28 := by
    refine ⟨_, rfl, ?_⟩
    have : ∀ x ∈ ([1, 2, 4, 7, 12, 28] : List Int), 1 ≤ x ∧ x ≤ 28 := by decide
    exact this _ (List.getElem_mem hlt)
  rw [en]
  clear h4 nlm en hlt P4 h3 kk3 P3 k4 B4
  walk_at "go"
  refine ⟨p, g, l, 3, rfl, P5.box, by omega, by omega, fun r2 H5 x0 x1 k5 B5 => ?_⟩
  have P6 := P5.draw k5 B5
  have kk6 := kk4.trans (keep2 (k := k) k5)
  have h6 := k5 _ _ h34 (off2 o3)
  clear k5 B5 P5 kk4 h34
  obtain ⟨many, hmany⟩ : ∃ s, s = n + r2 := ⟨_, rfl⟩
  walk_at "go"
  rw [← hmany]
  have m1 : 1 ≤ many := by omega
  have m2 : many ≤ 30 := by omega
  clear x0 x1 hmany
  refine ⟨_, rfl, by omega, by omega, ?_⟩
  refine go_lcR (fun Dn i H' => ∃ (as : List Addr) (is : List Ins), H' Dn = some (.lst (as.map V.ref)) ∧ is.length = i ∧ Paired (RowAt K H') as is ∧ (∀ x ∈ is, x.Ok many size) ∧ (∀ x o, H5 x = some o → x ∉ [p, g, k] → H' x = some o) ∧ Pot H' p g l k) (fun Dn hD => ?_) (fun Dn i H' hD hi pv => ?_) (fun Dn H' hD pv => ?_)
  · exact ⟨[], [], upd_same, rfl, .nil, by simp, fun x o e n => Keep.new (S := []) hD x o e (by simp), P6.keep (Keep.new hD)⟩
  · obtain ⟨as, is, h1, h2, h3, h4, h5, h7⟩ := pv
    have k7 : Keep [p, g, k] H5 H' := h5
    have oD := P6.off4 hD
    refine ⟨rfl, go_yes ?_⟩
    rw [if_pos rfl]
    walk_at "go"
    refine ⟨p, g, l, 32, rfl, h7.box, by omega, by omega, fun r H3 r0 r1 k3 B3 => ?_⟩
    have P7 := h7.draw k3 B3
    have hw3 : H3 l3 = some (.lst (ws.map V.str)) := k3 _ _ (k7 _ _ h6 (off3 o3)) (off2 o3)
    have hlt : r.toNat < ws.length := by omega
    refine go_ixL (sqL hw3) (v := .str ws[r.toNat]) (at_nat r0 (by rw [List.getElem?_map, List.getElem?_eq_getElem hlt]; rfl)) ?_
    walk_at "go"
    refine ⟨p, g, l, k, ws[r.toNat], many, size, rfl, P7, hW _ (List.getElem_mem hlt), s1, s2, m1, m2, fun a ins H8 k8 P8 ra ok _ => ?_⟩
    have hD3 := k3 _ _ h1 (off2 oD)
    have hD8 := k8 _ _ hD3 (off3 oD)
    have l1 := Paired.length h3
    refine ⟨_, hD8, ?_, as ++ [a], is ++ [ins], ?_, ?_, ?_, ?_, ?_, ?_⟩
    · rw [List.length_map, l1, h2]; exact szL (by omega)
    · rw [upd_same, List.map_append]; rfl
    · rw [List.length_append, h2]; rfl
    · have kp : Keep [Dn] H8 (upd H8 Dn (.lst (as.map V.ref ++ [.ref a]))) := Keep.put (by simp)
      have nt : NoT H8 [Dn] := noT_lst hD8 noT_nil
      exact Paired.snoc (Paired.mapP h3 fun a i e => ((e.keep k3 h7.box.noT).keep k8 P7.noT).keep kp nt) (ra.keep kp nt)
    · intro x hx
      rcases List.mem_append.1 hx with m | m
      · exact h4 x m
      · have := List.mem_singleton.1 m; subst this; exact ok
    · intro x o e n
      rw [upd_ne (ne_of_none e hD)]
      refine k8 _ _ (k3 _ _ (h5 x o e n) ?_) n
      simp only [List.mem_cons, List.not_mem_nil, or_false, not_or] at n ⊢
      exact ⟨n.1, n.2.1⟩
    · exact P8.put oD
  obtain ⟨as, is, h1, h2, h3, h4, h5, h7⟩ := pv
  have k7 : Keep [p, g, k] H5 H' := h5
  have oD := P6.off4 hD
  have nD : H Dn = none := by
    cases e : H Dn with
    | none => rfl
    | some o =>
      have := kk6 _ _ e (off3 oD)
      rw [this] at hD; cases hD
  have kk7 := kk6.trans k7
  clear k7 h5 kk6 P6 h6 hD
  walk_at "go"
  rename_i le nle
  have P8 : Pot (upd H' le (.lst ([("jump" : Str), "return", "fail"].map V.str))) p g l k := h7.keep (Keep.new nle)
  refine ⟨p, g, l, 3, rfl, P8.box, by omega, by omega, fun r H9 r0 r1 k9 B9 => ?_⟩
  have P9 := P8.draw k9 B9
  have h9 : H9 le = some (.lst ((["jump", "return", "fail"] : List Str).map V.str)) := k9 _ _ upd_same (h7.box.off nle)
  have hlt : r.toNat < (["jump", "return", "fail"] : List Str).length := by simp; omega
  refine go_ixL (sqL h9) (v := .str (["jump", "return", "fail"] : List Str)[r.toNat]) (at_nat r0 (by rw [List.getElem?_map, List.getElem?_eq_getElem hlt]; rfl)) ?_
  have hend : ∀ x ∈ (["jump", "return", "fail"] : List Str), x ∈ W25 ∧ (x = "jump" ∨ x = "return" ∨ x = "fail") := by decide +kernel
  have hend := hend _ (List.getElem_mem hlt)
  generalize (["jump", "return", "fail"] : List Str)[r.toNat] = wend at hend
  walk_at "go"
  refine ⟨p, g, l, k, wend, many, size, rfl, P9, hend.1, s1, s2, m1, m2, fun a ins H10 k10 P10 ra ok ew => ?_⟩
  have hD9 := k9 _ _ (Keep.new (S := []) (o := .lst ([("jump" : Str), "return", "fail"].map V.str)) nle _ _ h1 (by simp)) (off2 oD)
  have hD10 := k10 _ _ hD9 (off3 oD)
  have l1 := Paired.length h3
  have rows10 : Paired (RowAt K H10) as is := Paired.mapP h3 fun a i e => ((e.keep (Keep.new nle) noT_nil).keep k9 P8.box.noT).keep k10 P9.noT
  have kk10 : Keep [p, g, k] H H10 := ((kk7.trans (Keep.new nle)).trans (keep2 k9)).trans k10
  clear hlt h9 P9 P8 nle r0 r1 k9 B9 k10 hD9 h3 h1 kk7 h7
  walk_at "go"
  rename_i lh nlh li nli
  -- the rows stand
  have kp : Keep [Dn] H10 (upd H10 Dn (.lst (as.map V.ref ++ [.ref a]))) := Keep.put (by simp)
  have nt : NoT H10 [Dn] := noT_lst hD10 noT_nil
  have nlD : lh ≠ Dn := fun e => by rw [e, upd_same] at nlh; cases nlh
  have nlh10 : H10 lh = none := by rw [upd_ne nlD] at nlh; exact nlh
  have oh := P10.off4 nlh10
  have hrows : ∀ x ∈ is ++ [ins], x.Ok many size := fun x hx => by
    rcases List.mem_append.1 hx with m | m
    · exact h4 x m
    · have := List.mem_singleton.1 m; subst this; exact ok
  have hlen : (is ++ [ins]).length = many.toNat := by rw [List.length_append, h2, List.length_singleton]; omega
  have hlast : ∀ i, (is ++ [ins])[(is ++ [ins]).length - 1]? = some i → ends i := fun i e => by
    rw [List.length_append, List.length_singleton, Nat.add_sub_cancel, List.getElem?_append_right (Nat.le_refl _), Nat.sub_self] at e
    have := Option.some.inj e
    subst this
    unfold ends
    rw [ew]; exact hend.2
  have S0 : Dst K H (upd (upd H10 Dn (.lst (as.map V.ref ++ [.ref a]))) lh (.lst [])) p g l k Dn lh (is ++ [ins]) [] := by
    refine ⟨(kk10.fresh nD).trans (Keep.new nlh), (P10.put oD).keep (Keep.new nlh), ?_, ⟨[], upd_same, .nil⟩, nD, kk10.free nlh10 (off3 oh), oD, oh, fun e => nlD e.symm⟩
    refine RowsAt.keep (Keep.new nlh) noT_nil (by simp) ⟨as ++ [a], by rw [upd_same, List.map_append]; rfl, ?_⟩
    exact Paired.snoc (Paired.mapP rows10 fun a i e => e.keep kp nt) (ra.keep kp nt)
  have S1 := S0.new (o := .lst [.int 0, .int 1, .int 2, .int 4]) nli
  have hli : (upd (upd (upd H10 Dn (.lst (as.map V.ref ++ [.ref a]))) lh (.lst [])) li (.lst [.int 0, .int 1, .int 2, .int 4])) li = some (.lst (([0, 1, 2, 4] : List Int).map V.int)) := upd_same
  have oi := S0.P.off4 nli
  generalize (upd (upd (upd H10 Dn (.lst (as.map V.ref ++ [.ref a]))) lh (.lst [])) li (.lst [.int 0, .int 1, .int 2, .int 4])) = H11 at S1 hli
  generalize is ++ [ins] = rows at hrows hlen hlast S0 S1
  clear S0 nlh nli kp nt nlD nlh10 h2 h4 hD10 rows10 kk10 P10 ra ok hend ew hW hL nD oD oh
  refine ⟨p, g, l, 4, rfl, S1.P.box, by omega, by omega, fun r3 H12 r30 r31 k12 B12 => ?_⟩
  have S2 := S1.draw k12 B12
  have h12 := k12 _ _ hli (off2 oi)
  have hlt : r3.toNat < ([0, 1, 2, 4] : List Int).length := by simp; omega
  refine go_ixL (sqL h12) (v := .int ([0, 1, 2, 4] : List Int)[r3.toNat]) (at_nat r30 (by rw [List.getElem?_map, List.getElem?_eq_getElem hlt]; rfl)) ?_
  obtain ⟨cnt, en, n0, n4⟩ : ∃ n : Int, ([0, 1, 2, 4] : List Int)[r3.toNat] = n ∧ 0 ≤ n ∧ n ≤ 4 := by
    refine ⟨_, rfl, ?_⟩
    have : ∀ x ∈ ([0, 1, 2, 4] : List Int), 0 ≤ x ∧ x ≤ 4 := by decide
    exact this _ (List.getElem_mem hlt)
  rw [en]
  clear en hlt h12 hli k12 B12 S1 r30 r31
  walk_at "go"
  refine ⟨_, rfl, by omega, by omega, ?_⟩
  refine go_forR (fun i σ' H' => ∃ (x5 x8 x9 : Option V) (hs : List Hd), σ' = [some (V.ref p), some (V.ref k), some (V.ref l3), some (V.int size), some (V.int many), x5, some (V.ref Dn), some (V.ref lh), x8, x9] ∧ hs.length = i ∧ (∀ h ∈ hs, HdOk many size h) ∧ Dst K H H' p g l k Dn lh rows hs)
    ⟨none, none, none, [], rfl, rfl, by simp, S2⟩ ?_ ?_
  · rintro i σ' H' hi ⟨x5, x8, x9, hs, rfl, hl, ho, S⟩
    walk_at "go"
    refine ⟨p, g, l, many, rfl, S.P.box, m1, by omega, fun f1 H2 y0 y1 k2 B2 => ?_⟩
    have S3 := S.draw k2 B2
    walk_at "go"
    refine ⟨p, g, l, _, rfl, S3.P.box, by omega, by omega, fun f2 H3 y2 y3 k3 B3 => ?_⟩
    have S4 := S3.draw k3 B3
    obtain ⟨has4, hh4, hp4⟩ := S4.hs
    walk_at "go"
    refine ⟨p, g, l, many, rfl, S4.P.box, m1, by omega, fun f3 H4 y4 y5 k4 B4 => ?_⟩
    have S5 := S4.draw k4 B4
    walk_at "go"
    refine ⟨p, g, l, size, rfl, S5.P.box, s1, by omega, fun f4 H5 y6 y7 k5 B5 => ?_⟩
    have S6 := S5.draw k5 B5
    walk_at "go"
    rename_i tp ntp
    have S7 := S6.new (o := .tup [.int f1, .int (f1 + f2), .int f3, .int f4]) ntp
    obtain ⟨has, hh, hp⟩ := S7.hs
    have hl2 := Paired.length hp
    refine go_app hh (szL (by rw [List.length_map]; omega)) ?_
    refine ⟨_, _, _, hs ++ [(f1, f1 + f2, f3, f4)], rfl, by rw [List.length_append, hl]; rfl, ?_, S7.addH (h := (f1, f1 + f2, f3, f4)) (sqT upd_same) hh hp⟩
    intro h hm
    rcases List.mem_append.1 hm with m | m
    · exact ho h m
    · have := List.mem_singleton.1 m; subst this; exact ⟨⟨y4, y5⟩, ⟨y6, y7⟩⟩
  · rintro σ' H' ⟨x5, x8, x9, hs, rfl, hl, ho, S⟩
    have hl4 : hs.length ≤ 4 := by omega
    obtain ⟨has, hh, hp⟩ := S.hs
    have hl2 := Paired.length hp
    -- the end, from any list of handlers
    have fin : ∀ (σ' : L2.St) (H' : Hp), (∃ (hs : List Hd), σ' = [some (V.ref p), some (V.ref k), some (V.ref l3), some (V.int size), some (V.int many), x5, some (V.ref Dn), some (V.ref lh), x8, x9] ∧ hs.length ≤ 5 ∧ (∀ h ∈ hs, HdOk many size h) ∧ Dst K H H' p g l k Dn lh rows hs) →
        tRet (tLst (tCons (tCall (sp_law_word K) [] E0 (tCons (tVar 0) (tCons (tVar 1) tNil))) (tCons (tCall (sp_law_draw K) [] E0 (tCons (tVar 0) (tCons (tOp rAddI (tVar 3) (tC (.int 1))) tNil))) (tCons (tVar 3) (tCons (tVar 6) (tCons (tVar 7) tNil)))))) { nx := fun _ H' => Q .non H', rt := Q } σ' H' := by
      rintro σ' H' ⟨hs, rfl, hl, ho, S⟩
      walk_at "go"
      refine ⟨p, g, l, k, rfl, S.P, fun nm H2 W k2 P2 => ?_⟩
      have S3 := S.pot k2 P2
      walk_at "go"
      refine ⟨p, g, l, _, rfl, S3.P.box, by omega, by omega, fun pa H3 y0 y1 k3 B3 => ?_⟩
      have S4 := S3.draw k3 B3
      walk_at "go"
      rename_i lq nlq
      have S5 := S4.new (o := .lst [.str nm, .int pa, .int size, .ref Dn, .ref lh]) nlq
      have oq := S4.P.off4 nlq
      have el : (rows.length : Int) = many := by rw [hlen]; omega
      refine q lq Dn lh ⟨nm, pa, size, rows, hs⟩ _ S5.kk S5.P (S4.kk.free nlq (off3 oq)) S5.n1 S5.n2 ⟨upd_same, S5.rows, S5.hs⟩ ⟨W, s1, s2, ?_, ?_, ?_, hlast, ?_, hl⟩
      · show 1 ≤ rows.length
        omega
      · show rows.length ≤ 30
        omega
      · show ∀ i ∈ rows, i.Ok rows.length size
        rw [el]; exact hrows
      · show ∀ h ∈ hs, HdOk rows.length size h
        rw [el]; exact ho
    dsimp only
    refine seq_rest (fun σ' H' => ∃ (hs : List Hd), σ' = [some (V.ref p), some (V.ref k), some (V.ref l3), some (V.int size), some (V.int many), x5, some (V.ref Dn), some (V.ref lh), x8, x9] ∧ hs.length ≤ 5 ∧ (∀ h ∈ hs, HdOk many size h) ∧ Dst K H H' p g l k Dn lh rows hs) (fun σ' H' h => fin σ' H' h) (fun rest => ?_)
    refine go_ifS ?_
    walk_at "ex"
    refine go_ite (fun h2 => ?_) (fun h2 => ?_)
    · rw [List.length_map] at h2
      refine go_drop ?_
      refine go_bm ?_
      walk_at "ex"
      refine ⟨p, g, l, 2, rfl, S.P.box, by omega, by omega, fun f H2 y0 y1 k2 B2 => ?_⟩
      have S3 := S.draw k2 B2
      obtain ⟨has', hh', hp'⟩ := S3.hs
      have hl3 := Paired.length hp'
      have hlt : f.toNat < has'.length := by omega
      refine go_ixL (sqL hh') (v := .ref has'[f.toNat]) (at_nat y0 (by rw [List.getElem?_map, List.getElem?_eq_getElem hlt]; rfl)) ?_
      obtain ⟨hv, ev, hF⟩ := Rf.Paired.get hp' (List.getElem?_eq_getElem hlt)
      walk_at "ex"
      refine rest _ _ ⟨hs ++ [hv], rfl, by rw [List.length_append, List.length_singleton]; omega, ?_, S3.addH hF hh' hp'⟩
      intro h hm
      rcases List.mem_append.1 hm with m | m
      · exact ho h m
      · have := List.mem_singleton.1 m; subst this; exact ho _ (List.mem_of_getElem? ev)
    · exact go_next (rest _ _ ⟨hs, rfl, by omega, ho, S⟩)
end LW
end
section
namespace LW
open CM
open PySem.PyData (strOk)
variable {K : PySem.W.Frag} {w : World} {mg : Str → Option Value} {A : Adr}
local macro_rules | `(tactic| walk_at "dec") => `(tactic| first | refine go_ite_t (by decide +kernel) ?_ | refine go_ite_f (by decide +kernel) ?_)
/-- the values of a row; z: of the last part that is not flat -/
def rowV (z : V) : Ins → List V
  | .const a _ => [.str "const", .int a, z]
  | .two w a b => [.str w, .int a, .int b]
  | .op n a b c => [.str "op", .str n, .int a, .int b, .int c]
  | .jump t => [.str "jump", .int t]
  | .branch a t => [.str "branch", .int a, .int t]
  | .nam w a n => [.str w, .int a, .str n]
  | .setg n a => [.str "setg", .str n, .int a]
  | .get a b n => [.str "get", .int a, .int b, .str n]
  | .put a n b => [.str "put", .int a, .str n, .int b]
  | .three w a b c => [.str w, .int a, .int b, .int c]
  | .call a n _ => [.str "call", .int a, .str n, z]
  | .callv a b _ => [.str "callv", .int a, .int b, z]
  | .meth a b n _ => [.str "method", .int a, .int b, .str n, z]
  | .spawn n _ => [.str "spawn", .str n, z]
  | .pause => [.str "pause"]
  | .one w a => [.str w, .int a]
def given : Ins → Option (List Int)
  | .call _ _ g => some g
  | .callv _ _ g => some g
  | .meth _ _ _ g => some g
  | .spawn _ g => some g
  | _ => none
theorem dpA_ints_inv {H : Hp} : ∀ {g : List Int} {vs : List V}, DpAll K H vs (intsD g) → vs = g.map V.int
  | [], _, h => by cases h; rfl
  | x :: g, _, h => by
    cases h with
    | cons a b =>
      cases a
      rw [dpA_ints_inv (g := g) b]; rfl
theorem dp_ints_inv {H : Hp} {g : List Int} {v : V} (h : Dp K H v (.tuple (intsD g))) : ∃ t, v = .ref t ∧ SqT K H t (g.map V.int) := by
  cases h with
  | tup s a => rw [dpA_ints_inv a] at s; exact ⟨_, rfl, s⟩
theorem row_inv {H : Hp} {a : Addr} {i : Ins} (h : RowAt K H a i) : ∃ z, SqT K H a (rowV z i) ∧ ∀ g, given i = some g → ∃ t, z = .ref t ∧ SqT K H t (g.map V.int) := by
  obtain ⟨h, _⟩ := h
  cases h with
  | tup s d =>
    cases i with
    | const x y => cases d with | cons a1 d => cases d with | cons a2 d => cases d with | cons a3 d => cases d; cases a1; cases a2; exact ⟨_, s, fun g e => by cases e⟩
    | two x y z => cases d with | cons a1 d => cases d with | cons a2 d => cases d with | cons a3 d => cases d; cases a1; cases a2; cases a3; exact ⟨.non, s, fun g e => by cases e⟩
    | op n x y z => cases d with | cons a1 d => cases d with | cons a2 d => cases d with | cons a3 d => cases d with | cons a4 d => cases d with | cons a5 d => cases d; cases a1; cases a2; cases a3; cases a4; cases a5; exact ⟨.non, s, fun g e => by cases e⟩
    | jump x => cases d with | cons a1 d => cases d with | cons a2 d => cases d; cases a1; cases a2; exact ⟨.non, s, fun g e => by cases e⟩
    | branch x y => cases d with | cons a1 d => cases d with | cons a2 d => cases d with | cons a3 d => cases d; cases a1; cases a2; cases a3; exact ⟨.non, s, fun g e => by cases e⟩
    | nam x y z => cases d with | cons a1 d => cases d with | cons a2 d => cases d with | cons a3 d => cases d; cases a1; cases a2; cases a3; exact ⟨.non, s, fun g e => by cases e⟩
    | setg x y => cases d with | cons a1 d => cases d with | cons a2 d => cases d with | cons a3 d => cases d; cases a1; cases a2; cases a3; exact ⟨.non, s, fun g e => by cases e⟩
    | get x y z => cases d with | cons a1 d => cases d with | cons a2 d => cases d with | cons a3 d => cases d with | cons a4 d => cases d; cases a1; cases a2; cases a3; cases a4; exact ⟨.non, s, fun g e => by cases e⟩
    | put x y z => cases d with | cons a1 d => cases d with | cons a2 d => cases d with | cons a3 d => cases d with | cons a4 d => cases d; cases a1; cases a2; cases a3; cases a4; exact ⟨.non, s, fun g e => by cases e⟩
    | three w x y z => cases d with | cons a1 d => cases d with | cons a2 d => cases d with | cons a3 d => cases d with | cons a4 d => cases d; cases a1; cases a2; cases a3; cases a4; exact ⟨.non, s, fun g e => by cases e⟩
    | call x y z => cases d with | cons a1 d => cases d with | cons a2 d => cases d with | cons a3 d => cases d with | cons a4 d => cases d; cases a1; cases a2; cases a3; exact ⟨_, s, fun g e => by cases e; exact dp_ints_inv a4⟩
    | callv x y z => cases d with | cons a1 d => cases d with | cons a2 d => cases d with | cons a3 d => cases d with | cons a4 d => cases d; cases a1; cases a2; cases a3; exact ⟨_, s, fun g e => by cases e; exact dp_ints_inv a4⟩
    | meth x y n z => cases d with | cons a1 d => cases d with | cons a2 d => cases d with | cons a3 d => cases d with | cons a4 d => cases d with | cons a5 d => cases d; cases a1; cases a2; cases a3; cases a4; exact ⟨_, s, fun g e => by cases e; exact dp_ints_inv a5⟩
    | spawn y z => cases d with | cons a1 d => cases d with | cons a2 d => cases d with | cons a3 d => cases d; cases a1; cases a2; exact ⟨_, s, fun g e => by cases e; exact dp_ints_inv a3⟩
    | pause => cases d with | cons a1 d => cases d; cases a1; exact ⟨.non, s, fun g e => by cases e⟩
    | one x y => cases d with | cons a1 d => cases d with | cons a2 d => cases d; cases a1; cases a2; exact ⟨.non, s, fun g e => by cases e⟩
def fI (xs : List V) (p : Int) : Int := match xs[p.toNat]? with | some (.int v) => v | _ => 0
theorem slots_core {a : Addr} {H : Hp} {Q : VK} (T : Txt K w mg A) {xs : List V} {wd : Str} {pl out : List Int} (hs : SqT K H a xs) (h0 : atI xs 0 = some (.str wd)) (hm : (wd, pl) ∈ wd_READS) (hl : pl.length ≤ 3) (hp : ∀ p ∈ pl, atI xs p = some (.int (fI xs p)))
    (hL : ((wd, none) ∈ wd_LISTS ∧ out = pl.map (fI xs)) ∨ ∃ n t g, (wd, some n) ∈ wd_LISTS ∧ atI xs n = some (.ref t) ∧ SqT K H t (g.map V.int) ∧ g.length ≤ 5 ∧ out = pl.map (fI xs) ++ g)
    (q : ∀ (H' : Hp) (l : Addr), Keep [] H H' → H l = none → H' l = some (.lst (out.map V.int)) → Q (.ref l) H') :
    t_slots_read K w A { nx := fun _ H' => Q .non H', rt := Q } (L2.start n_slots_read [.ref a]) H := by
  unfold t_slots_read
  show tSeq _ _ _ [some (V.ref a), none, none] H
  walk_at "go"
  obtain ⟨t, hw, ht⟩ := T.x_READS _ hm
  refine go_ixT hs h0 (go_ixW T.w_READS hw ?_)
  refine go_lcTM (ht H) (fun v => match v with | .int p => .int (fI xs p) | y => y) (szL (by rw [List.length_map]; show pl.length < _; omega)) (fun v => rfl) (fun x hx H' R k hr => ?_) (fun Dn nD => ?_)
  · obtain ⟨p, hpm, rfl⟩ := List.mem_map.1 hx
    walk_at "go"
    exact go_ixT (k.tup (by simp) hs) (hp p hpm) hr
  have e1 : (pl.map V.int).map (fun v => match v with | .int p => V.int (fI xs p) | y => y) = (pl.map (fI xs)).map V.int := by
    rw [List.map_map, List.map_map]; rfl
  rw [e1]
  have k1 : Keep [] H (upd H Dn (.lst ((pl.map (fI xs)).map V.int))) := Keep.new nD
  walk_at "go"
  refine go_ixT (k1.tup (by simp) hs) h0 ?_
  walk_at "go"
  rcases hL with ⟨m, rfl⟩ | ⟨n, t2, g, m, hn, hg, gl, rfl⟩
  · refine go_inW T.w_LISTS (T.x_LISTS _ m) ?_
    walk_at "ex"
    show if false = true then _ else _
    refine go_iteF ?_
    walk_at "go"
    exact q _ Dn k1 nD upd_same
  · refine go_inW T.w_LISTS (T.x_LISTS _ m) ?_
    walk_at "ex"
    show if true = true then _ else _
    refine go_iteT ?_
    walk_at "go"
    refine go_ixT (k1.tup (by simp) hs) h0 (go_ixW T.w_LISTS (T.x_LISTS _ m) (go_ixT (k1.tup (by simp) hs) hn ?_))
    walk_at "ex"
    refine go_extT upd_same (k1.tup (by simp) hg) (sz (by simp only [List.length_map]; omega)) ?_
    walk_at "go"
    refine q _ Dn (by walk_at "keep") nD ?_
    rw [upd_same, List.map_append]
theorem rd_slots_read {vs H Q E} (T : Txt K w mg A) (h : sp_slots_read K vs H Q E) : t_slots_read K w A { nx := fun _ H' => Q .non H', rt := Q } (L2.start n_slots_read vs) H := by
  obtain ⟨a, i, m, s, rfl, hr, ok, q⟩ := h
  obtain ⟨z, hs, hz⟩ := row_inv hr
  cases i with
  | const x y => exact slots_core T hs rfl (pl := []) (by decide +kernel) (by decide) (by simp) (Or.inl ⟨by decide +kernel, rfl⟩) q
  | two wd x y =>
    obtain ⟨e, _⟩ := ok
    rcases e with rfl | rfl | rfl | rfl <;> exact slots_core T hs rfl (pl := [2]) (by decide +kernel) (by decide) (by simp; rfl) (Or.inl ⟨by decide +kernel, rfl⟩) q
  | op n x y z => exact slots_core T hs rfl (pl := [3, 4]) (by decide +kernel) (by decide) (by simp; exact ⟨rfl, rfl⟩) (Or.inl ⟨by decide +kernel, rfl⟩) q
  | jump x => exact slots_core T hs rfl (pl := []) (by decide +kernel) (by decide) (by simp) (Or.inl ⟨by decide +kernel, rfl⟩) q
  | branch x y => exact slots_core T hs rfl (pl := [1]) (by decide +kernel) (by decide) (by simp; rfl) (Or.inl ⟨by decide +kernel, rfl⟩) q
  | nam wd x y =>
    obtain ⟨e, _⟩ := ok
    rcases e with rfl | rfl | rfl
    · exact slots_core T hs rfl (pl := []) (by decide +kernel) (by decide) (by simp) (Or.inl ⟨by decide +kernel, rfl⟩) q
    · exact slots_core T hs rfl (pl := []) (by decide +kernel) (by decide) (by simp) (Or.inl ⟨by decide +kernel, rfl⟩) q
    · exact slots_core T hs rfl (pl := [1]) (by decide +kernel) (by decide) (by simp; rfl) (Or.inl ⟨by decide +kernel, rfl⟩) q
  | setg x y => exact slots_core T hs rfl (pl := [2]) (by decide +kernel) (by decide) (by simp; rfl) (Or.inl ⟨by decide +kernel, rfl⟩) q
  | get x y z => exact slots_core T hs rfl (pl := [2]) (by decide +kernel) (by decide) (by simp; rfl) (Or.inl ⟨by decide +kernel, rfl⟩) q
  | put x y z => exact slots_core T hs rfl (pl := [1, 3]) (by decide +kernel) (by decide) (by simp; exact ⟨rfl, rfl⟩) (Or.inl ⟨by decide +kernel, rfl⟩) q
  | three wd x y z =>
    obtain ⟨e, _⟩ := ok
    rcases e with rfl | rfl
    · exact slots_core T hs rfl (pl := [2, 3]) (by decide +kernel) (by decide) (by simp; exact ⟨rfl, rfl⟩) (Or.inl ⟨by decide +kernel, rfl⟩) q
    · exact slots_core T hs rfl (pl := [1, 2, 3]) (by decide +kernel) (by decide) (by simp; exact ⟨rfl, rfl, rfl⟩) (Or.inl ⟨by decide +kernel, rfl⟩) q
  | call x y g =>
    obtain ⟨t, rfl, ht⟩ := hz g rfl
    exact slots_core T hs rfl (pl := []) (by decide +kernel) (by decide) (by simp) (Or.inr ⟨3, t, g, by decide +kernel, rfl, ht, ok.2.2.2, rfl⟩) q
  | callv x y g =>
    obtain ⟨t, rfl, ht⟩ := hz g rfl
    exact slots_core T hs rfl (pl := [2]) (by decide +kernel) (by decide) (by simp; rfl) (Or.inr ⟨3, t, g, by decide +kernel, rfl, ht, ok.2.2.2, rfl⟩) q
  | meth x y n g =>
    obtain ⟨t, rfl, ht⟩ := hz g rfl
    exact slots_core T hs rfl (pl := [2]) (by decide +kernel) (by decide) (by simp; rfl) (Or.inr ⟨4, t, g, by decide +kernel, rfl, ht, ok.2.2.2.2, rfl⟩) q
  | spawn n g =>
    obtain ⟨t, rfl, ht⟩ := hz g rfl
    exact slots_core T hs rfl (pl := []) (by decide +kernel) (by decide) (by simp) (Or.inr ⟨2, t, g, by decide +kernel, rfl, ht, ok.2.2, rfl⟩) q
  | pause => exact slots_core T hs rfl (pl := []) (by decide +kernel) (by decide) (by simp) (Or.inl ⟨by decide +kernel, rfl⟩) q
  | one wd x =>
    obtain ⟨e, _⟩ := ok
    rcases e with rfl | rfl | rfl | rfl <;> exact slots_core T hs rfl (pl := [1]) (by decide +kernel) (by decide) (by simp; rfl) (Or.inl ⟨by decide +kernel, rfl⟩) q
theorem target_core {a : Addr} {H : Hp} {Q : VK} (T : Txt K w mg A) {xs : List V} {wd : Str} {o : Option Int} (hs : SqT K H a xs) (h0 : atI xs 0 = some (.str wd)) (hm : (wd, o) ∈ wd_WRITES) (ho : ∀ n, o = some n → atI xs n = some (.int (fI xs n)))
    (q : Q (optV (o.map (fI xs))) H) : t_target K w A { nx := fun _ H' => Q .non H', rt := Q } (L2.start n_target [.ref a]) H := by
  unfold t_target
  show tSeq _ _ _ [some (V.ref a), none] H
  refine go_seq (go_asgN (go_getW (go_c ⟨_, rfl, T.w_WRITES, ?_⟩)))
  walk_at "ex"
  refine go_ixT hs h0 ⟨_, _, rfl, T.x_WRITES _ hm, ?_⟩
  cases o with
  | none =>
    show tSeq _ _ _ [some (V.ref a), some V.non] H
    walk_at "go"
    exact q
  | some n =>
    show tSeq _ _ _ [some (V.ref a), some (V.int n)] H
    walk_at "go"
    exact go_ixT hs (ho n rfl) q
theorem rd_target {vs H Q E} (T : Txt K w mg A) (h : sp_target K vs H Q E) : t_target K w A { nx := fun _ H' => Q .non H', rt := Q } (L2.start n_target vs) H := by
  obtain ⟨a, i, m, s, rfl, hr, ok, q⟩ := h
  obtain ⟨z, hs, hz⟩ := row_inv hr
  have n1 : ∀ {o : Option Int}, o = none → ∀ n, o = some n → atI (rowV z i) n = some (.int (fI (rowV z i) n)) := fun e n e2 => by rw [e] at e2; cases e2
  cases i with
  | const x y => exact target_core T hs rfl (o := some 1) (by decide +kernel) (fun n e => by cases e; rfl) q
  | two wd x y =>
    obtain ⟨e, _⟩ := ok
    rcases e with rfl | rfl | rfl | rfl <;> exact target_core T hs rfl (o := some 1) (by decide +kernel) (fun n e => by cases e; rfl) q
  | op n x y z => exact target_core T hs rfl (o := some 2) (by decide +kernel) (fun n e => by cases e; rfl) q
  | jump x => exact target_core T hs rfl (o := none) (by decide +kernel) (n1 rfl) q
  | branch x y => exact target_core T hs rfl (o := none) (by decide +kernel) (n1 rfl) q
  | nam wd x y =>
    obtain ⟨e, _⟩ := ok
    rcases e with rfl | rfl | rfl
    · exact target_core T hs rfl (o := some 1) (by decide +kernel) (fun n e => by cases e; rfl) q
    · exact target_core T hs rfl (o := some 1) (by decide +kernel) (fun n e => by cases e; rfl) q
    · exact target_core T hs rfl (o := none) (by decide +kernel) (n1 rfl) q
  | setg x y => exact target_core T hs rfl (o := none) (by decide +kernel) (n1 rfl) q
  | get x y z => exact target_core T hs rfl (o := some 1) (by decide +kernel) (fun n e => by cases e; rfl) q
  | put x y z => exact target_core T hs rfl (o := none) (by decide +kernel) (n1 rfl) q
  | three wd x y z =>
    obtain ⟨e, _⟩ := ok
    rcases e with rfl | rfl
    · exact target_core T hs rfl (o := some 1) (by decide +kernel) (fun n e => by cases e; rfl) q
    · exact target_core T hs rfl (o := none) (by decide +kernel) (n1 rfl) q
  | call x y g => exact target_core T hs rfl (o := some 1) (by decide +kernel) (fun n e => by cases e; rfl) q
  | callv x y g => exact target_core T hs rfl (o := some 1) (by decide +kernel) (fun n e => by cases e; rfl) q
  | meth x y n g => exact target_core T hs rfl (o := some 1) (by decide +kernel) (fun n e => by cases e; rfl) q
  | spawn n g => exact target_core T hs rfl (o := none) (by decide +kernel) (n1 rfl) q
  | pause => exact target_core T hs rfl (o := none) (by decide +kernel) (n1 rfl) q
  | one wd x =>
    obtain ⟨e, _⟩ := ok
    rcases e with rfl | rfl | rfl | rfl <;> exact target_core T hs rfl (o := none) (by decide +kernel) (n1 rfl) q
end LW
end
section
namespace LW
open CM
open PySem.PyData (strOk)
variable {K : PySem.W.Frag} {w : World} {mg : Str → Option Value} {A : Adr}
abbrev tb1 : List (Str × List Int) := [("move", [2]), ("op", [3, 4]), ("not", [2]), ("branch", [1]), ("setg", [2]), ("get", [2]), ("put", [1, 3])]
abbrev tb2 : List (Str × List Int) := [("drop", [1]), ("array", [2]), ("at", [2, 3]), ("setat", [1, 2, 3]), ("len", [2]), ("return", [1])]
theorem places_core {a lp : Addr} {H : Hp} {Q : VK} {xs : List V} {pl : List Int} (hs : SqT K H a xs) (hl : H lp = some (.lst (pl.map V.int))) (hn : pl.length ≤ 3) (hp : ∀ p ∈ pl, atI xs p = some (.int (fI xs p))) (x1 x2 x3 x4 : Option V)
    (q : ∀ l, H l = none → Q (.ref l) (upd H l (.lst ((pl.map (fI xs)).map V.int)))) :
    ∃ a', V.ref lp = .ref a' ∧ (∃ xs, SqL K H a' xs) ∧ LcQ (Itl K a') (gName 4) tYes (tOp (rIxT K) (tVar 0) (tVar 4)) [4] Q [some (.ref a), x1, x2, x3, x4] H := by
  refine go_lcM (sqL hl) (fun v => match v with | .int p => .int (fI xs p) | y => y) (szL (by rw [List.length_map]; omega)) (fun v => rfl) (fun x hx H' R k hr => ?_) (fun Dn nD => ?_)
  · obtain ⟨p, hpm, rfl⟩ := List.mem_map.1 hx
    walk_at "ex"
    exact go_ixT (k.tup (by simp) hs) (hp p hpm) hr
  · have e1 : (pl.map V.int).map (fun v => match v with | .int p => V.int (fI xs p) | y => y) = (pl.map (fI xs)).map V.int := by
      rw [List.map_map, List.map_map]; rfl
    rw [e1]
    exact q Dn nD
theorem read_core {a : Addr} {H : Hp} {Q : VK} {xs : List V} {wd : Str} {out : List Int} (hs : SqT K H a xs) (h0 : atI xs 0 = some (.str wd)) (c1 : ¬ wd ∈ (["call", "spawn"] : List Str)) (c2 : ¬ wd ∈ (["callv", "method"] : List Str))
    (c : (∃ pl, tblGet tb1 wd = some pl ∧ pl.length ≤ 3 ∧ (∀ p ∈ pl, atI xs p = some (.int (fI xs p))) ∧ out = pl.map (fI xs)) ∨
      (∃ pl, tblGet tb1 wd = none ∧ tblGet tb2 wd = some pl ∧ pl.length ≤ 3 ∧ (∀ p ∈ pl, atI xs p = some (.int (fI xs p))) ∧ out = pl.map (fI xs)) ∨
      (tblGet tb1 wd = none ∧ tblGet tb2 wd = none ∧ wd ∈ (["say", "fail", "load"] : List Str) ∧ atI xs 1 = some (.int (fI xs 1)) ∧ out = [fI xs 1]) ∨
      (tblGet tb1 wd = none ∧ tblGet tb2 wd = none ∧ ¬ wd ∈ (["say", "fail", "load"] : List Str) ∧ out = []))
    (q : ∀ (H' : Hp) (l : Addr), Keep [] H H' → H l = none → H' l = some (.lst (out.map V.int)) → Q (.ref l) H') :
    t_law_read K w A { nx := fun _ H' => Q .non H', rt := Q } (L2.start n_law_read [.ref a]) H := by
  unfold t_law_read
  show tSeq _ _ _ [some (V.ref a), none, none, none, none] H
  walk_at "go"
  refine go_ixT hs h0 ?_
  walk_at "go"
  rename_i l1 n1
  refine go_inS (ws := ["call", "spawn"]) (sqL upd_same) ?_
  walk_at "ex"
  refine go_ite_f c1 ?_
  walk_at "go"
  rename_i l2 n2
  refine go_inS (ws := ["callv", "method"]) (sqL upd_same) ?_
  walk_at "ex"
  refine go_ite_f c2 ?_
  walk_at "stm"
  walk_at "stm"
  walk_at "stm"
  refine go_tbl tb1 rfl (by decide +kernel) (by decide) (by decide) (fun d1 H1 nd1 k1 t1 => ?_)
  walk_at "stm"
  walk_at "stm"
  refine go_tbl tb2 rfl (by decide +kernel) (by decide) (by decide) (fun d2 H2 nd2 k2 t2 => ?_)
  have kk : Keep [] H H2 := ((((Keep.refl (S := [])).trans (Keep.new n1)).trans (Keep.new n2)).trans k1).trans k2
  have t1' := t1.keep (S := []) k2
  have hs2 := kk.tup (by simp) hs
  clear n1 n2 k1 t1 nd1 nd2 k2
  walk_at "go"
  rcases c with ⟨pl, e1, hn, hp, rfl⟩ | ⟨pl, e1, e2, hn, hp, rfl⟩ | ⟨e1, e2, e3, hp, rfl⟩ | ⟨e1, e2, e3, rfl⟩
  · obtain ⟨lp, h1, h2⟩ := t1'.some e1
    refine go_dinE h2 ?_
    walk_at "ex"
    show if true = true then _ else _
    refine go_iteT ?_
    walk_at "go"
    refine ⟨_, _, rfl, h2, ?_⟩
    refine places_core hs2 h1 hn hp _ _ _ _ (fun l nl => ?_)
    exact q _ l (kk.trans (Keep.new nl)) (kk.free nl (by simp)) upd_same
  · refine go_dinE (t1'.none e1) ?_
    walk_at "ex"
    show if false = true then _ else _
    refine go_iteF ?_
    walk_at "go"
    obtain ⟨lp, h1, h2⟩ := t2.some e2
    refine go_dinE h2 ?_
    walk_at "ex"
    show if true = true then _ else _
    refine go_iteT ?_
    walk_at "go"
    refine ⟨_, _, rfl, h2, ?_⟩
    refine places_core hs2 h1 hn hp _ _ _ _ (fun l nl => ?_)
    exact q _ l (kk.trans (Keep.new nl)) (kk.free nl (by simp)) upd_same
  · refine go_dinE (t1'.none e1) ?_
    walk_at "ex"
    show if false = true then _ else _
    refine go_iteF ?_
    walk_at "go"
    refine go_dinE (t2.none e2) ?_
    walk_at "ex"
    show if false = true then _ else _
    refine go_iteF ?_
    walk_at "go"
    rename_i l3 n3
    refine go_inS (ws := ["say", "fail", "load"]) (sqL upd_same) ?_
    walk_at "ex"
    refine go_ite_t e3 ?_
    walk_at "go"
    refine go_ixT (sqT_upd hs2 n3) hp ?_
    walk_at "go"
    rename_i l4 n4
    exact q _ l4 (by walk_at "keep") (by walk_at "free") upd_same
  · refine go_dinE (t1'.none e1) ?_
    walk_at "ex"
    show if false = true then _ else _
    refine go_iteF ?_
    walk_at "go"
    refine go_dinE (t2.none e2) ?_
    walk_at "ex"
    show if false = true then _ else _
    refine go_iteF ?_
    walk_at "go"
    rename_i l3 n3
    refine go_inS (ws := ["say", "fail", "load"]) (sqL upd_same) ?_
    walk_at "ex"
    refine go_ite_f e3 ?_
    walk_at "go"
    rename_i l4 n4
    exact q _ l4 (by walk_at "keep") (by walk_at "free") upd_same
/-- where the last part is the given slots -/
theorem read_given {a t : Addr} {H : Hp} {Q : VK} {xs : List V} {wd : Str} {g : List Int} (hs : SqT K H a xs) (h0 : atI xs 0 = some (.str wd)) (c1 : wd ∈ (["call", "spawn"] : List Str)) (hl : atI xs (-1) = some (.ref t)) (ht : SqT K H t (g.map V.int))
    (q : ∀ (H' : Hp) (l : Addr), Keep [] H H' → H l = none → H' l = some (.lst (g.map V.int)) → Q (.ref l) H') :
    t_law_read K w A { nx := fun _ H' => Q .non H', rt := Q } (L2.start n_law_read [.ref a]) H := by
  unfold t_law_read
  show tSeq _ _ _ [some (V.ref a), none, none, none, none] H
  walk_at "go"
  refine go_ixT hs h0 ?_
  walk_at "go"
  rename_i l1 n1
  refine go_inS (ws := ["call", "spawn"]) (sqL upd_same) ?_
  walk_at "ex"
  refine go_ite_t c1 ?_
  walk_at "go"
  refine go_un ?_
  walk_at "ex"
  refine go_neg (go_ixT (sqT_upd hs n1) hl ?_)
  walk_at "ex"
  refine go_listT (sqT_upd ht n1) (fun l nl => ?_)
  exact q _ l (by walk_at "keep") (by walk_at "free") upd_same
theorem read_given1 {a t : Addr} {H : Hp} {Q : VK} {xs : List V} {wd : Str} {g : List Int} {b : Int} (hs : SqT K H a xs) (h0 : atI xs 0 = some (.str wd)) (c1 : ¬ wd ∈ (["call", "spawn"] : List Str)) (c2 : wd ∈ (["callv", "method"] : List Str)) (hl : atI xs (-1) = some (.ref t)) (hb : atI xs 2 = some (.int b)) (ht : SqT K H t (g.map V.int)) (hg : g.length ≤ 5)
    (q : ∀ (H' : Hp) (l : Addr), Keep [] H H' → H l = none → H' l = some (.lst ((b :: g).map V.int)) → Q (.ref l) H') :
    t_law_read K w A { nx := fun _ H' => Q .non H', rt := Q } (L2.start n_law_read [.ref a]) H := by
  unfold t_law_read
  show tSeq _ _ _ [some (V.ref a), none, none, none, none] H
  walk_at "go"
  refine go_ixT hs h0 ?_
  walk_at "go"
  rename_i l1 n1
  refine go_inS (ws := ["call", "spawn"]) (sqL upd_same) ?_
  walk_at "ex"
  refine go_ite_f c1 ?_
  walk_at "go"
  rename_i l2 n2
  refine go_inS (ws := ["callv", "method"]) (sqL upd_same) ?_
  walk_at "ex"
  refine go_ite_t c2 ?_
  walk_at "go"
  refine go_ixT (sqT_upd (sqT_upd hs n1) n2) hb ?_
  walk_at "go"
  rename_i l3 n3
  refine go_un ?_
  walk_at "ex"
  refine go_neg (go_ixT (sqT_upd (sqT_upd (sqT_upd hs n1) n2) n3) hl ?_)
  walk_at "ex"
  refine go_listT (sqT_upd (sqT_upd (sqT_upd ht n1) n2) n3) (fun l4 n4 => ?_)
  refine go_cat (by walk_at "look") upd_same (sz (by simp only [List.length_cons, List.length_nil, List.length_map]; omega)) (fun l5 n5 => ?_)
  exact q _ l5 (by walk_at "keep") (by walk_at "free") upd_same
theorem rd_law_read {vs H Q E} (T : Txt K w mg A) (h : sp_law_read K vs H Q E) : t_law_read K w A { nx := fun _ H' => Q .non H', rt := Q } (L2.start n_law_read vs) H := by
  obtain ⟨a, i, m, s, rfl, hr, ok, q⟩ := h
  obtain ⟨z, hs, hz⟩ := row_inv hr
  cases i with
  | const x y => exact read_core hs rfl (by decide +kernel) (by decide +kernel) (Or.inr (Or.inr (Or.inr ⟨by decide +kernel, by decide +kernel, by decide +kernel, rfl⟩))) q
  | two wd x y =>
    obtain ⟨e, _⟩ := ok
    rcases e with rfl | rfl | rfl | rfl
    · exact read_core hs rfl (by decide +kernel) (by decide +kernel) (Or.inl ⟨[2], by decide +kernel, by decide, (by simp; rfl), rfl⟩) q
    · exact read_core hs rfl (by decide +kernel) (by decide +kernel) (Or.inl ⟨[2], by decide +kernel, by decide, (by simp; rfl), rfl⟩) q
    · exact read_core hs rfl (by decide +kernel) (by decide +kernel) (Or.inr (Or.inl ⟨[2], by decide +kernel, by decide +kernel, by decide, (by simp; rfl), rfl⟩)) q
    · exact read_core hs rfl (by decide +kernel) (by decide +kernel) (Or.inr (Or.inl ⟨[2], by decide +kernel, by decide +kernel, by decide, (by simp; rfl), rfl⟩)) q
  | op n x y z => exact read_core hs rfl (by decide +kernel) (by decide +kernel) (Or.inl ⟨[3, 4], by decide +kernel, by decide, (by simp; exact ⟨rfl, rfl⟩), rfl⟩) q
  | jump x => exact read_core hs rfl (by decide +kernel) (by decide +kernel) (Or.inr (Or.inr (Or.inr ⟨by decide +kernel, by decide +kernel, by decide +kernel, rfl⟩))) q
  | branch x y => exact read_core hs rfl (by decide +kernel) (by decide +kernel) (Or.inl ⟨[1], by decide +kernel, by decide, (by simp; rfl), rfl⟩) q
  | nam wd x y =>
    obtain ⟨e, _⟩ := ok
    rcases e with rfl | rfl | rfl
    · exact read_core hs rfl (by decide +kernel) (by decide +kernel) (Or.inr (Or.inr (Or.inr ⟨by decide +kernel, by decide +kernel, by decide +kernel, rfl⟩))) q
    · exact read_core hs rfl (by decide +kernel) (by decide +kernel) (Or.inr (Or.inr (Or.inr ⟨by decide +kernel, by decide +kernel, by decide +kernel, rfl⟩))) q
    · exact read_core hs rfl (by decide +kernel) (by decide +kernel) (Or.inr (Or.inl ⟨[1], by decide +kernel, by decide +kernel, by decide, (by simp; rfl), rfl⟩)) q
  | setg x y => exact read_core hs rfl (by decide +kernel) (by decide +kernel) (Or.inl ⟨[2], by decide +kernel, by decide, (by simp; rfl), rfl⟩) q
  | get x y z => exact read_core hs rfl (by decide +kernel) (by decide +kernel) (Or.inl ⟨[2], by decide +kernel, by decide, (by simp; rfl), rfl⟩) q
  | put x y z => exact read_core hs rfl (by decide +kernel) (by decide +kernel) (Or.inl ⟨[1, 3], by decide +kernel, by decide, (by simp; exact ⟨rfl, rfl⟩), rfl⟩) q
  | three wd x y z =>
    obtain ⟨e, _⟩ := ok
    rcases e with rfl | rfl
    · exact read_core hs rfl (by decide +kernel) (by decide +kernel) (Or.inr (Or.inl ⟨[2, 3], by decide +kernel, by decide +kernel, by decide, (by simp; exact ⟨rfl, rfl⟩), rfl⟩)) q
    · exact read_core hs rfl (by decide +kernel) (by decide +kernel) (Or.inr (Or.inl ⟨[1, 2, 3], by decide +kernel, by decide +kernel, by decide, (by simp; exact ⟨rfl, rfl, rfl⟩), rfl⟩)) q
  | call x y g =>
    obtain ⟨t, rfl, ht⟩ := hz g rfl
    exact read_given hs rfl (by decide +kernel) rfl ht q
  | callv x y g =>
    obtain ⟨t, rfl, ht⟩ := hz g rfl
    exact read_given1 hs rfl (by decide +kernel) (by decide +kernel) rfl rfl ht ok.2.2.2 q
  | meth x y n g =>
    obtain ⟨t, rfl, ht⟩ := hz g rfl
    exact read_given1 hs rfl (by decide +kernel) (by decide +kernel) rfl rfl ht ok.2.2.2.2 q
  | spawn n g =>
    obtain ⟨t, rfl, ht⟩ := hz g rfl
    exact read_given hs rfl (by decide +kernel) rfl ht q
  | pause => exact read_core hs rfl (by decide +kernel) (by decide +kernel) (Or.inr (Or.inr (Or.inr ⟨by decide +kernel, by decide +kernel, by decide +kernel, rfl⟩))) q
  | one wd x =>
    obtain ⟨e, _⟩ := ok
    rcases e with rfl | rfl | rfl | rfl
    · exact read_core hs rfl (by decide +kernel) (by decide +kernel) (Or.inr (Or.inl ⟨[1], by decide +kernel, by decide +kernel, by decide, (by simp; rfl), rfl⟩)) q
    · exact read_core hs rfl (by decide +kernel) (by decide +kernel) (Or.inr (Or.inr (Or.inl ⟨by decide +kernel, by decide +kernel, by decide +kernel, rfl, rfl⟩))) q
    · exact read_core hs rfl (by decide +kernel) (by decide +kernel) (Or.inr (Or.inr (Or.inl ⟨by decide +kernel, by decide +kernel, by decide +kernel, rfl, rfl⟩))) q
    · exact read_core hs rfl (by decide +kernel) (by decide +kernel) (Or.inr (Or.inr (Or.inl ⟨by decide +kernel, by decide +kernel, by decide +kernel, rfl, rfl⟩))) q
/-- law_written, by its word -/
theorem written_core {a : Addr} {H : Hp} {Q : VK} {xs : List V} {wd : Str} {o : Option Int} (hs : SqT K H a xs) (h0 : atI xs 0 = some (.str wd))
    (c : (wd = "op" ∧ ∃ x, atI xs 2 = some (.int x) ∧ o = some x) ∨ (¬ wd = "op" ∧ wd ∈ (["const", "move", "not", "getg", "new", "get", "array", "at", "len", "call", "callv", "method"] : List Str) ∧ ∃ x, atI xs 1 = some (.int x) ∧ o = some x) ∨
      (¬ wd = "op" ∧ ¬ wd ∈ (["const", "move", "not", "getg", "new", "get", "array", "at", "len", "call", "callv", "method"] : List Str) ∧ o = none))
    (q : ∀ H', Keep [] H H' → Q (optV o) H') : t_law_written K w A { nx := fun _ H' => Q .non H', rt := Q } (L2.start n_law_written [.ref a]) H := by
  unfold t_law_written
  show tSeq _ _ _ [some (V.ref a), none] H
  walk_at "go"
  refine go_ixT hs h0 ?_
  walk_at "go"
  rcases c with ⟨e, x, hx, rfl⟩ | ⟨e, m, x, hx, rfl⟩ | ⟨e, m, rfl⟩
  · refine go_ite_t e ?_
    walk_at "go"
    exact go_ixT hs hx (q _ Keep.refl)
  · refine go_ite_f e ?_
    walk_at "go"
    rename_i l nl
    refine go_ixT (sqT_upd hs nl) h0 ?_
    walk_at "ex"
    refine go_inS (ws := ["const", "move", "not", "getg", "new", "get", "array", "at", "len", "call", "callv", "method"]) (sqL upd_same) ?_
    walk_at "ex"
    refine go_ite_t m ?_
    walk_at "go"
    exact go_ixT (sqT_upd hs nl) hx (q _ (Keep.new nl))
  · refine go_ite_f e ?_
    walk_at "go"
    rename_i l nl
    refine go_ixT (sqT_upd hs nl) h0 ?_
    walk_at "ex"
    refine go_inS (ws := ["const", "move", "not", "getg", "new", "get", "array", "at", "len", "call", "callv", "method"]) (sqL upd_same) ?_
    walk_at "ex"
    refine go_ite_f m ?_
    walk_at "go"
    exact q _ (Keep.new nl)
theorem rd_law_written {vs H Q E} (T : Txt K w mg A) (h : sp_law_written K vs H Q E) : t_law_written K w A { nx := fun _ H' => Q .non H', rt := Q } (L2.start n_law_written vs) H := by
  obtain ⟨a, i, m, s, rfl, hr, ok, q⟩ := h
  obtain ⟨z, hs, hz⟩ := row_inv hr
  cases i with
  | const x y => exact written_core hs rfl (Or.inr (Or.inl ⟨by decide +kernel, by decide +kernel, _, rfl, rfl⟩)) q
  | two wd x y =>
    obtain ⟨e, _⟩ := ok
    rcases e with rfl | rfl | rfl | rfl <;> exact written_core hs rfl (Or.inr (Or.inl ⟨by decide +kernel, by decide +kernel, _, rfl, rfl⟩)) q
  | op n x y z => exact written_core hs rfl (Or.inl ⟨rfl, _, rfl, rfl⟩) q
  | jump x => exact written_core hs rfl (Or.inr (Or.inr ⟨by decide +kernel, by decide +kernel, rfl⟩)) q
  | branch x y => exact written_core hs rfl (Or.inr (Or.inr ⟨by decide +kernel, by decide +kernel, rfl⟩)) q
  | nam wd x y =>
    obtain ⟨e, _⟩ := ok
    rcases e with rfl | rfl | rfl
    · exact written_core hs rfl (Or.inr (Or.inl ⟨by decide +kernel, by decide +kernel, _, rfl, rfl⟩)) q
    · exact written_core hs rfl (Or.inr (Or.inl ⟨by decide +kernel, by decide +kernel, _, rfl, rfl⟩)) q
    · exact written_core hs rfl (Or.inr (Or.inr ⟨by decide +kernel, by decide +kernel, rfl⟩)) q
  | setg x y => exact written_core hs rfl (Or.inr (Or.inr ⟨by decide +kernel, by decide +kernel, rfl⟩)) q
  | get x y z => exact written_core hs rfl (Or.inr (Or.inl ⟨by decide +kernel, by decide +kernel, _, rfl, rfl⟩)) q
  | put x y z => exact written_core hs rfl (Or.inr (Or.inr ⟨by decide +kernel, by decide +kernel, rfl⟩)) q
  | three wd x y z =>
    obtain ⟨e, _⟩ := ok
    rcases e with rfl | rfl
    · exact written_core hs rfl (Or.inr (Or.inl ⟨by decide +kernel, by decide +kernel, _, rfl, rfl⟩)) q
    · exact written_core hs rfl (Or.inr (Or.inr ⟨by decide +kernel, by decide +kernel, rfl⟩)) q
  | call x y g => exact written_core hs rfl (Or.inr (Or.inl ⟨by decide +kernel, by decide +kernel, _, rfl, rfl⟩)) q
  | callv x y g => exact written_core hs rfl (Or.inr (Or.inl ⟨by decide +kernel, by decide +kernel, _, rfl, rfl⟩)) q
  | meth x y n g => exact written_core hs rfl (Or.inr (Or.inl ⟨by decide +kernel, by decide +kernel, _, rfl, rfl⟩)) q
  | spawn n g => exact written_core hs rfl (Or.inr (Or.inr ⟨by decide +kernel, by decide +kernel, rfl⟩)) q
  | pause => exact written_core hs rfl (Or.inr (Or.inr ⟨by decide +kernel, by decide +kernel, rfl⟩)) q
  | one wd x =>
    obtain ⟨e, _⟩ := ok
    rcases e with rfl | rfl | rfl | rfl <;> exact written_core hs rfl (Or.inr (Or.inr ⟨by decide +kernel, by decide +kernel, rfl⟩)) q
end LW
end
section
namespace LW
open CM
open PySem.PyData (strOk)
variable {K : PySem.W.Frag} {w : World} {mg : Str → Option Value} {A : Adr}
theorem rowsAt_get {H : Hp} {l : Addr} {rows : List Ins} {j : Nat} {i : Ins} (h : RowsAt K H l rows) (e : rows[j]? = some i) : ∃ (as : List Addr) (a : Addr), H l = some (.lst (as.map V.ref)) ∧ atI (as.map V.ref) (j : Int) = some (.ref a) ∧ RowAt K H a i := by
  obtain ⟨as, h1, h2⟩ := h
  have hl := Paired.length h2
  have hj : j < rows.length := (List.getElem?_eq_some_iff.mp e).1
  have ha : as[j]? = some as[j] := List.getElem?_eq_getElem (by omega)
  obtain ⟨i2, e2, hr⟩ := Rf.Paired.get h2 ha
  rw [e] at e2
  cases e2
  exact ⟨as, as[j], h1, atI_nat (by rw [List.getElem?_map, ha]; rfl), hr⟩
theorem two_sorted {ns : List Int} {x y : Int} (h : ns.Pairwise (· < ·)) (m : ∀ k, k ∈ ns ↔ k = x ∨ k = y) : ns = if y = x then [x] else if y < x then [y, x] else [x, y] := by
  match ns, h, m with
  | [], _, m => exact absurd ((m x).2 (Or.inl rfl)) (by simp)
  | [a], _, m =>
    have h1 := (m x).2 (Or.inl rfl)
    have h2 := (m y).2 (Or.inr rfl)
    simp only [List.mem_singleton] at h1 h2
    subst h1; subst h2; simp
  | [a, b], h, m =>
    have hab : a < b := by simpa using h
    have h1 := (m x).2 (Or.inl rfl)
    have h2 := (m y).2 (Or.inr rfl)
    have h3 := (m a).1 (by simp)
    have h4 := (m b).1 (by simp)
    rcases h3 with e | e <;> rcases h4 with e' | e'
    · omega
    · subst e e'
      rw [if_neg (by omega), if_neg (by omega)]
    · subst e e'
      rw [if_neg (by omega), if_pos hab]
    · omega
  | a :: b :: c :: r, h, m =>
    exfalso
    rw [List.pairwise_cons, List.pairwise_cons] at h
    have h1 := h.1 b (by simp)
    have h2 := h.2.1 c (by simp)
    have h3 := (m a).1 (by simp)
    have h4 := (m b).1 (by simp)
    have h5 := (m c).1 (by simp)
    omega
theorem later_core {l a : Addr} {H : Hp} {Q : VK} {as : List Addr} {xs : List V} {wd : Str} {j : Nat} {out : List Int} (hl : H l = some (.lst (as.map V.ref))) (ha : atI (as.map V.ref) (j : Int) = some (.ref a)) (hs : SqT K H a xs) (h0 : atI xs 0 = some (.str wd))
    (c : (wd ∈ (["return", "fail"] : List Str) ∧ out = []) ∨ (¬ wd ∈ (["return", "fail"] : List Str) ∧ wd = "jump" ∧ ∃ t, atI xs 1 = some (.int t) ∧ out = [t]) ∨
      (¬ wd ∈ (["return", "fail"] : List Str) ∧ ¬ wd = "jump" ∧ wd = "branch" ∧ ∃ t : Int, atI xs 2 = some (.int t) ∧ out = if t = (j : Int) + 1 then [(j : Int) + 1] else if t < (j : Int) + 1 then [t, (j : Int) + 1] else [(j : Int) + 1, t]) ∨
      (¬ wd ∈ (["return", "fail"] : List Str) ∧ ¬ wd = "jump" ∧ ¬ wd = "branch" ∧ out = [(j : Int) + 1]))
    (q : ∀ (H' : Hp) (l : Addr), Keep [] H H' → H l = none → H' l = some (.lst (out.map V.int)) → Q (.ref l) H') :
    t_law_later K w A { nx := fun _ H' => Q .non H', rt := Q } (L2.start n_law_later [.ref l, .int j]) H := by
  unfold t_law_later
  show tSeq _ _ _ [some (V.ref l), some (V.int j), none] H
  walk_at "go"
  refine go_ixL (sqL hl) ha ?_
  walk_at "go"
  refine go_ixT hs h0 ?_
  walk_at "go"
  rename_i l1 n1
  refine go_inS (ws := ["return", "fail"]) (sqL upd_same) ?_
  walk_at "ex"
  have hs1 := sqT_upd (o := .lst [.str "return", .str "fail"]) hs n1
  have hl1 : SqL K (upd H l1 (.lst [.str "return", .str "fail"])) l (as.map V.ref) := sqL_upd (sqL hl) n1
  rcases c with ⟨m, rfl⟩ | ⟨m, e, t, ht, rfl⟩ | ⟨m, e1, e2, t, ht, rfl⟩ | ⟨m, e1, e2, rfl⟩
  · refine go_ite_t m ?_
    walk_at "go"
    rename_i l2 n2
    exact q _ l2 (by walk_at "keep") (by walk_at "free") upd_same
  · refine go_ite_f m ?_
    walk_at "go"
    refine go_ite_t e ?_
    walk_at "go"
    refine go_ixL hl1 ha ?_
    walk_at "go"
    refine go_ixT hs1 ht ?_
    walk_at "go"
    rename_i l2 n2
    exact q _ l2 (by walk_at "keep") (by walk_at "free") upd_same
  · refine go_ite_f m ?_
    walk_at "go"
    refine go_ite_f e1 ?_
    walk_at "go"
    refine go_ite_t e2 ?_
    walk_at "go"
    refine go_ixL hl1 ha ?_
    walk_at "go"
    refine go_ixT hs1 ht ?_
    walk_at "go"
    refine go_iteN (fun h1 => ?_) (fun h1 => ?_)
    · walk_at "go"
      refine go_ixL hl1 ha ?_
      walk_at "go"
      refine go_ixT hs1 ht ?_
      walk_at "go"
      rename_i l2 n2
      refine ⟨l2, [(j : Int) + 1, t], rfl, sqL upd_same, fun ns p hp hpw np => ?_⟩
      have nd : ns.Nodup := hp.nodup_iff.mpr (by simp; exact fun z => h1 z.symm)
      have ev := two_sorted (x := (j : Int) + 1) (y := t) (lt_of_le_nodup ns hpw nd) (fun k => by rw [hp.mem_iff]; simp)
      rw [ev]
      exact q _ p (by walk_at "keep") (by walk_at "free") upd_same
    · walk_at "go"
      rename_i l2 n2
      rw [if_pos h1] at q
      exact q _ l2 (by walk_at "keep") (by walk_at "free") upd_same
  · refine go_ite_f m ?_
    walk_at "go"
    refine go_ite_f e1 ?_
    walk_at "go"
    refine go_ite_f e2 ?_
    walk_at "go"
    rename_i l2 n2
    exact q _ l2 (by walk_at "keep") (by walk_at "free") upd_same
theorem rd_law_later {vs H Q E} (T : Txt K w mg A) (h : sp_law_later K vs H Q E) : t_law_later K w A { nx := fun _ H' => Q .non H', rt := Q } (L2.start n_law_later vs) H := by
  obtain ⟨l, rows, j, i, rfl, hR, hi, ⟨m, s, ok⟩, q⟩ := h
  obtain ⟨as, a, hl, ha, hr⟩ := rowsAt_get hR hi
  obtain ⟨z, hs, hz⟩ := row_inv hr
  cases i with
  | const x y => exact later_core hl ha hs rfl (Or.inr (Or.inr (Or.inr ⟨by decide +kernel, by decide +kernel, by decide +kernel, rfl⟩))) q
  | two wd x y =>
    obtain ⟨e, _⟩ := ok
    rcases e with rfl | rfl | rfl | rfl <;> exact later_core hl ha hs rfl (Or.inr (Or.inr (Or.inr ⟨by decide +kernel, by decide +kernel, by decide +kernel, rfl⟩))) q
  | op n x y z => exact later_core hl ha hs rfl (Or.inr (Or.inr (Or.inr ⟨by decide +kernel, by decide +kernel, by decide +kernel, rfl⟩))) q
  | jump x => exact later_core hl ha hs rfl (Or.inr (Or.inl ⟨by decide +kernel, by decide +kernel, _, rfl, rfl⟩)) q
  | branch x y => exact later_core hl ha hs rfl (Or.inr (Or.inr (Or.inl ⟨by decide +kernel, by decide +kernel, by decide +kernel, _, rfl, rfl⟩))) q
  | nam wd x y =>
    obtain ⟨e, _⟩ := ok
    rcases e with rfl | rfl | rfl <;> exact later_core hl ha hs rfl (Or.inr (Or.inr (Or.inr ⟨by decide +kernel, by decide +kernel, by decide +kernel, rfl⟩))) q
  | setg x y => exact later_core hl ha hs rfl (Or.inr (Or.inr (Or.inr ⟨by decide +kernel, by decide +kernel, by decide +kernel, rfl⟩))) q
  | get x y z => exact later_core hl ha hs rfl (Or.inr (Or.inr (Or.inr ⟨by decide +kernel, by decide +kernel, by decide +kernel, rfl⟩))) q
  | put x y z => exact later_core hl ha hs rfl (Or.inr (Or.inr (Or.inr ⟨by decide +kernel, by decide +kernel, by decide +kernel, rfl⟩))) q
  | three wd x y z =>
    obtain ⟨e, _⟩ := ok
    rcases e with rfl | rfl <;> exact later_core hl ha hs rfl (Or.inr (Or.inr (Or.inr ⟨by decide +kernel, by decide +kernel, by decide +kernel, rfl⟩))) q
  | call x y g => exact later_core hl ha hs rfl (Or.inr (Or.inr (Or.inr ⟨by decide +kernel, by decide +kernel, by decide +kernel, rfl⟩))) q
  | callv x y g => exact later_core hl ha hs rfl (Or.inr (Or.inr (Or.inr ⟨by decide +kernel, by decide +kernel, by decide +kernel, rfl⟩))) q
  | meth x y n g => exact later_core hl ha hs rfl (Or.inr (Or.inr (Or.inr ⟨by decide +kernel, by decide +kernel, by decide +kernel, rfl⟩))) q
  | spawn n g => exact later_core hl ha hs rfl (Or.inr (Or.inr (Or.inr ⟨by decide +kernel, by decide +kernel, by decide +kernel, rfl⟩))) q
  | pause => exact later_core hl ha hs rfl (Or.inr (Or.inr (Or.inr ⟨by decide +kernel, by decide +kernel, by decide +kernel, rfl⟩))) q
  | one wd x =>
    obtain ⟨e, _⟩ := ok
    rcases e with rfl | rfl | rfl | rfl
    · exact later_core hl ha hs rfl (Or.inl ⟨by decide +kernel, rfl⟩) q
    · exact later_core hl ha hs rfl (Or.inr (Or.inr (Or.inr ⟨by decide +kernel, by decide +kernel, by decide +kernel, rfl⟩))) q
    · exact later_core hl ha hs rfl (Or.inl ⟨by decide +kernel, rfl⟩) q
    · exact later_core hl ha hs rfl (Or.inr (Or.inr (Or.inr ⟨by decide +kernel, by decide +kernel, by decide +kernel, rfl⟩))) q
theorem following_core {p lr lh a : Addr} {kl : V} {D : Drw} {H : Hp} {Q : VK} {as : List Addr} {xs : List V} {wd : Str} {j : Nat} {out : List Int} (T : Txt K w mg A) (C : CodeAt K H p lr lh kl D) (hl : H lr = some (.lst (as.map V.ref))) (ha : atI (as.map V.ref) (j : Int) = some (.ref a)) (hs : SqT K H a xs) (h0 : atI xs 0 = some (.str wd))
    (c : (wd ∈ (["return", "fail"] : List Str) ∧ out = []) ∨ (¬ wd ∈ (["return", "fail"] : List Str) ∧ wd = "jump" ∧ ∃ t, atI xs 1 = some (.int t) ∧ out = [t]) ∨
      (¬ wd ∈ (["return", "fail"] : List Str) ∧ ¬ wd = "jump" ∧ wd = "branch" ∧ ∃ t : Int, atI xs 2 = some (.int t) ∧ out = if t = (j : Int) + 1 then [(j : Int) + 1] else if t < (j : Int) + 1 then [t, (j : Int) + 1] else [(j : Int) + 1, t]) ∨
      (¬ wd ∈ (["return", "fail"] : List Str) ∧ ¬ wd = "jump" ∧ ¬ wd = "branch" ∧ out = [(j : Int) + 1]))
    (q : ∀ (H' : Hp) (l : Addr), Keep [] H H' → H l = none → H' l = some (.lst (out.map V.int)) → Q (.ref l) H') :
    t_following K w A { nx := fun _ H' => Q .non H', rt := Q } (L2.start n_following [.ref p, .int j]) H := by
  unfold t_following
  show tSeq _ _ _ [some (V.ref p), some (V.int j), none] H
  walk_at "go"
  obtain ⟨Cc, dx, cc, nc, hC⟩ := C.at_
  refine ⟨p, Cc, dx, _, _, rfl, hC, cc, nc.2.2.2.1, rfl, ?_⟩
  walk_at "ex"
  refine go_ixL (sqL hl) ha ?_
  walk_at "go"
  refine go_ixT hs h0 ?_
  walk_at "go"
  rename_i l1 n1
  refine go_inST (ws := ["return", "fail"]) (sqT upd_same) ?_
  walk_at "ex"
  have hs1 := sqT_upd (o := .tup [.str "return", .str "fail"]) hs n1
  rcases c with ⟨m, rfl⟩ | ⟨m, e, t, ht, rfl⟩ | ⟨m, e1, e2, t, ht, rfl⟩ | ⟨m, e1, e2, rfl⟩
  · refine go_ite_t m ?_
    walk_at "go"
    rename_i l2 n2
    exact q _ l2 (by walk_at "keep") (by walk_at "free") upd_same
  · refine go_ite_f m ?_
    walk_at "go"
    refine go_ixT hs1 h0 ?_
    walk_at "go"
    refine go_ite_t e ?_
    walk_at "go"
    refine go_ixT hs1 ht ?_
    walk_at "go"
    rename_i l2 n2
    exact q _ l2 (by walk_at "keep") (by walk_at "free") upd_same
  · refine go_ite_f m ?_
    walk_at "go"
    refine go_ixT hs1 h0 ?_
    walk_at "go"
    refine go_ite_f e1 ?_
    walk_at "go"
    refine go_ixT hs1 h0 ?_
    walk_at "go"
    refine go_ite_t e2 ?_
    walk_at "go"
    refine go_setI2 (fun d nd => ?_)
    walk_at "ex"
    refine go_ixT (sqT_upd hs1 nd) ht ⟨upd_same, _, _, rfl, rfl, fun S n hn hS => ?_⟩
    walk_at "ex"
    refine ⟨d, S, n, rfl, upd_same, by omega, fun ns l2 hp hm _ n2 => ?_⟩
    have ev := two_sorted (x := (j : Int) + 1) (y := t) hp (fun k => (hm k).trans (hS k))
    rw [ev]
    rw [upd_upd] at n2 ⊢
    exact q _ l2 (by walk_at "keep") (by walk_at "free") upd_same
  · refine go_ite_f m ?_
    walk_at "go"
    refine go_ixT hs1 h0 ?_
    walk_at "go"
    refine go_ite_f e1 ?_
    walk_at "go"
    refine go_ixT hs1 h0 ?_
    walk_at "go"
    refine go_ite_f e2 ?_
    walk_at "go"
    rename_i l2 n2
    exact q _ l2 (by walk_at "keep") (by walk_at "free") upd_same
theorem rd_following {vs H Q E} (T : Txt K w mg A) (h : sp_following K vs H Q E) : t_following K w A { nx := fun _ H' => Q .non H', rt := Q } (L2.start n_following vs) H := by
  obtain ⟨p, lr, lh, kl, D, j, i, rfl, C, hi, ok, q⟩ := h
  obtain ⟨as, a, hl, ha, hr⟩ := rowsAt_get C.rows hi
  obtain ⟨z, hs, hz⟩ := row_inv hr
  cases i with
  | const x y => exact following_core T C hl ha hs rfl (Or.inr (Or.inr (Or.inr ⟨by decide +kernel, by decide +kernel, by decide +kernel, rfl⟩))) q
  | two wd x y =>
    obtain ⟨e, _⟩ := ok
    rcases e with rfl | rfl | rfl | rfl <;> exact following_core T C hl ha hs rfl (Or.inr (Or.inr (Or.inr ⟨by decide +kernel, by decide +kernel, by decide +kernel, rfl⟩))) q
  | op n x y z => exact following_core T C hl ha hs rfl (Or.inr (Or.inr (Or.inr ⟨by decide +kernel, by decide +kernel, by decide +kernel, rfl⟩))) q
  | jump x => exact following_core T C hl ha hs rfl (Or.inr (Or.inl ⟨by decide +kernel, by decide +kernel, _, rfl, rfl⟩)) q
  | branch x y => exact following_core T C hl ha hs rfl (Or.inr (Or.inr (Or.inl ⟨by decide +kernel, by decide +kernel, by decide +kernel, _, rfl, rfl⟩))) q
  | nam wd x y =>
    obtain ⟨e, _⟩ := ok
    rcases e with rfl | rfl | rfl <;> exact following_core T C hl ha hs rfl (Or.inr (Or.inr (Or.inr ⟨by decide +kernel, by decide +kernel, by decide +kernel, rfl⟩))) q
  | setg x y => exact following_core T C hl ha hs rfl (Or.inr (Or.inr (Or.inr ⟨by decide +kernel, by decide +kernel, by decide +kernel, rfl⟩))) q
  | get x y z => exact following_core T C hl ha hs rfl (Or.inr (Or.inr (Or.inr ⟨by decide +kernel, by decide +kernel, by decide +kernel, rfl⟩))) q
  | put x y z => exact following_core T C hl ha hs rfl (Or.inr (Or.inr (Or.inr ⟨by decide +kernel, by decide +kernel, by decide +kernel, rfl⟩))) q
  | three wd x y z =>
    obtain ⟨e, _⟩ := ok
    rcases e with rfl | rfl <;> exact following_core T C hl ha hs rfl (Or.inr (Or.inr (Or.inr ⟨by decide +kernel, by decide +kernel, by decide +kernel, rfl⟩))) q
  | call x y g => exact following_core T C hl ha hs rfl (Or.inr (Or.inr (Or.inr ⟨by decide +kernel, by decide +kernel, by decide +kernel, rfl⟩))) q
  | callv x y g => exact following_core T C hl ha hs rfl (Or.inr (Or.inr (Or.inr ⟨by decide +kernel, by decide +kernel, by decide +kernel, rfl⟩))) q
  | meth x y n g => exact following_core T C hl ha hs rfl (Or.inr (Or.inr (Or.inr ⟨by decide +kernel, by decide +kernel, by decide +kernel, rfl⟩))) q
  | spawn n g => exact following_core T C hl ha hs rfl (Or.inr (Or.inr (Or.inr ⟨by decide +kernel, by decide +kernel, by decide +kernel, rfl⟩))) q
  | pause => exact following_core T C hl ha hs rfl (Or.inr (Or.inr (Or.inr ⟨by decide +kernel, by decide +kernel, by decide +kernel, rfl⟩))) q
  | one wd x =>
    obtain ⟨e, _⟩ := ok
    rcases e with rfl | rfl | rfl | rfl
    · exact following_core T C hl ha hs rfl (Or.inl ⟨by decide +kernel, rfl⟩) q
    · exact following_core T C hl ha hs rfl (Or.inr (Or.inr (Or.inr ⟨by decide +kernel, by decide +kernel, by decide +kernel, rfl⟩))) q
    · exact following_core T C hl ha hs rfl (Or.inl ⟨by decide +kernel, rfl⟩) q
    · exact following_core T C hl ha hs rfl (Or.inr (Or.inr (Or.inr ⟨by decide +kernel, by decide +kernel, by decide +kernel, rfl⟩))) q
end LW
end
section
namespace LW
open CM
open PySem.PyData (strOk)
variable {K : PySem.W.Frag} {w : World} {mg : Str → Option Value} {A : Adr}
theorem go_refsP {K : PySem.W.Frag} {D : Ends} {σ : L2.St} {H : Hp} {g : TG} {tb : TS} {a : Addr} {α : Type} {F : Addr → α → Prop} {as : List Addr} {ms : List α} (hp : Paired F as ms) (hS : SqL K H a (as.map V.ref)) (Pv : List α → L2.St → Hp → Prop) (h0 : Pv [] σ H) (hl : ∀ pre σ' H', Pv pre σ' H' → SqL K H' a (as.map V.ref))
    (hs : ∀ pre m post b σ' H', ms = pre ++ m :: post → F b m → Pv pre σ' H' → g (.ref b) σ' H' fun σ2 H2 => tb { D with nx := Pv (pre ++ [m]), ct := Pv (pre ++ [m]), bk := D.nx } σ2 H2)
    (hd : ∀ σ' H', Pv ms σ' H' → D.nx σ' H') : ∃ a', V.ref a = .ref a' ∧ (∃ xs, SqL K H a' xs) ∧ ForQ (Itl K a') g tb D σ H := by
  refine go_forL hS (fun pre σ' H' => Pv (ms.take pre.length) σ' H') h0 (fun pre σ' H' p => hl _ _ _ p) (fun pre x post σ' H' e p => ?_) (fun σ' H' p => hd σ' H' ?_)
  · obtain ⟨b, m, rfl, hF, hm, hb, h1, h2, h3⟩ := refs_split hp e
    obtain ⟨hlt, e1⟩ := List.getElem?_eq_some_iff.mp h1
    have := hs (ms.take pre.length) m (ms.drop (pre.length + 1)) b σ' H' (by rw [← e1, List.getElem_cons_drop, List.take_append_drop]) hF p
    rw [h2]
    exact this
  · rw [List.length_map, Paired.length hp, List.take_length] at p
    exact p
theorem catch_step {hs : List Hd} {pre post : List Hd} {m : Hd} {pc : Int} (e : hs = pre ++ m :: post) (n : catcher pre pc = none) : (m.1 ≤ pc ∧ pc < m.2.1 → catcher hs pc = some m) ∧ (¬ (m.1 ≤ pc ∧ pc < m.2.1) → catcher (pre ++ [m]) pc = none) := by
  unfold catcher at *
  constructor
  · intro h
    rw [e, List.find?_append, n]
    simp [h.1, h.2]
  · intro h
    rw [List.find?_append, n]
    simp
    intro h1
    rcases Int.lt_or_le pc m.2.1 with h2 | h2
    · exact absurd ⟨h1, h2⟩ h
    · exact h2
theorem rd_law_catcher {vs H Q E} (T : Txt K w mg A) (h : sp_law_catcher K vs H Q E) : t_law_catcher K w A { nx := fun _ H' => Q .non H', rt := Q } (L2.start n_law_catcher vs) H := by
  obtain ⟨l, hs, pc, rfl, ⟨as, h1, h2⟩, q⟩ := h
  unfold t_law_catcher
  show tSeq _ _ _ [some (V.ref l), some (V.int pc), none] H
  walk_at "go"
  refine go_refsP h2 (sqL h1) (fun pre σ' H' => ∃ x : Option V, σ' = [some (V.ref l), some (V.int pc), x] ∧ H' = H ∧ catcher pre pc = none) ⟨none, rfl, rfl, rfl⟩ (fun pre σ' H' p => ?_) (fun pre m post b σ' H' e hb p => ?_) (fun σ' H' p => ?_)
  · obtain ⟨x, _, rfl, _⟩ := p
    exact sqL h1
  · obtain ⟨x, rfl, rfl, n⟩ := p
    obtain ⟨c1, c2⟩ := catch_step e n
    walk_at "go"
    refine go_ite (fun e1 => ?_) (fun e1 => ?_)
    · walk_at "go"
      refine go_ite (fun e2 => ?_) (fun e2 => ?_)
      · walk_at "go"
        exact q _ (by rw [c1 ⟨e1, e2⟩]; exact ⟨b, rfl, hb⟩)
      · walk_at "go"
        exact ⟨_, rfl, rfl, c2 fun z => e2 z.2⟩
    · walk_at "go"
      exact ⟨_, rfl, rfl, c2 fun z => e1 z.1⟩
  · obtain ⟨x, rfl, rfl, n⟩ := p
    walk_at "go"
    exact q _ (by rw [n]; rfl)
theorem rd_handler_at {vs H Q E} (T : Txt K w mg A) (h : sp_handler_at K vs H Q E) : t_handler_at K w A { nx := fun _ H' => Q .non H', rt := Q } (L2.start n_handler_at vs) H := by
  obtain ⟨p, lr, lh, kl, D, pc, rfl, C, q⟩ := h
  obtain ⟨as, h1, h2⟩ := C.hs
  obtain ⟨Cc, dx, cc, nc, hC⟩ := C.at_
  unfold t_handler_at
  show tSeq _ _ _ [some (V.ref p), some (V.int pc), none] H
  walk_at "go"
  refine ⟨p, Cc, dx, _, _, rfl, hC, cc, nc.2.2.2.2.1, rfl, ?_⟩
  refine go_refsP h2 (sqL h1) (fun pre σ' H' => ∃ x : Option V, σ' = [some (V.ref p), some (V.int pc), x] ∧ H' = H ∧ catcher pre pc = none) ⟨none, rfl, rfl, rfl⟩ (fun pre σ' H' p => ?_) (fun pre m post b σ' H' e hb p => ?_) (fun σ' H' p => ?_)
  · obtain ⟨x, _, rfl, _⟩ := p
    exact sqL h1
  · obtain ⟨x, rfl, rfl, n⟩ := p
    obtain ⟨c1, c2⟩ := catch_step e n
    walk_at "go"
    refine go_ite (fun e1 => ?_) (fun e1 => ?_)
    · walk_at "go"
      refine go_ite (fun e2 => ?_) (fun e2 => ?_)
      · walk_at "go"
        exact q _ (by rw [c1 ⟨e1, e2⟩]; exact ⟨b, rfl, hb⟩)
      · walk_at "go"
        exact ⟨_, rfl, rfl, c2 fun z => e2 z.2⟩
    · walk_at "go"
      exact ⟨_, rfl, rfl, c2 fun z => e1 z.1⟩
  · obtain ⟨x, rfl, rfl, n⟩ := p
    walk_at "go"
    exact q _ (by rw [n]; rfl)
theorem seq_at {H H' : Hp} {x l C dx : Addr} {xs : List V} {fs : List (Str × V)} (k : Keep [x] H H') (hx : H x = some (.ins C dx fs)) (h : H l = some (.lst xs) ∨ H l = some (.tup xs)) : SqL K H' l xs ∨ SqT K H' l xs := by
  have n : l ∉ [x] := by
    simp; intro e; subst e
    rcases h with h | h <;> · rw [hx] at h; cases h
  exact h.imp (fun e => sqL (k _ _ e n)) (fun e => sqT (k _ _ e n))
theorem rd_Code_init {vs H Q E} (T : Txt K w mg A) (h : sp_Code_init K vs H Q E) : t_Code_init K w A { nx := fun _ H' => Q .non H', rt := Q } (L2.start n_Code_init vs) H := by
  obtain ⟨x, C, dx, lr, lh, nm, pa, sz, xs, ys, rfl, hx, cc, nc, h1, h2, q⟩ := h
  obtain ⟨n1, n2, n3, n4, n5, n6⟩ := nc
  unfold t_Code_init
  show tSeq _ _ _ [some (V.ref x), some (V.str nm), some (V.int pa), some (V.int sz), some (V.ref lr), some (V.ref lh)] H
  walk_at "go"
  refine ⟨x, C, dx, _, rfl, hx, cc, n1, by decide, ?_⟩
  walk_at "go"
  refine ⟨x, C, dx, _, rfl, upd_same, cc, n2, Nat.lt_of_le_of_lt (Nat.le_of_eq (rfl : _ = 1)) (by decide), ?_⟩
  rw [upd_upd]
  walk_at "go"
  refine ⟨x, C, dx, _, rfl, upd_same, cc, n3, Nat.lt_of_le_of_lt (Nat.le_of_eq (rfl : _ = 2)) (by decide), ?_⟩
  rw [upd_upd]
  walk_at "go"
  generalize hf : putF "size" (.int sz) (putF "params" (.int pa) (putF "name" (.str nm) [])) = f3
  have k1 : Keep [x] H (upd H x (.ins C dx f3)) := Keep.put (by simp)
  have l3 : f3.length = 3 := by rw [← hf]; rfl
  refine ⟨lr, xs, rfl, seq_at k1 hx h1, fun l1 nl1 => ?_⟩
  have nx1 : x ≠ l1 := fun e => by rw [e, upd_same] at nl1; cases nl1
  have nl1' : H l1 = none := by rw [upd_ne nx1.symm] at nl1; exact nl1
  walk_at "go"
  refine ⟨x, C, dx, f3, rfl, by rw [upd_ne nx1, upd_same], cc, n4, by omega, ?_⟩
  walk_at "go"
  generalize hH2 : upd (upd (upd H x (.ins C dx f3)) l1 (.lst xs)) x (.ins C dx (putF "rows" (.ref l1) f3)) = H2
  have k2 : Keep [x] H H2 := by
    subst hH2
    exact (k1.trans (Keep.new nl1)).trans (Keep.put (by simp))
  have hx2 : H2 x = some (.ins C dx (putF "rows" (.ref l1) f3)) := by subst hH2; exact upd_same
  have hl1 : H2 l1 = some (.lst xs) := by subst hH2; rw [upd_ne nx1.symm]; exact upd_same
  clear hH2
  refine ⟨lh, ys, rfl, seq_at k2 hx h2, fun l2 nl2 => ?_⟩
  have nx2 : x ≠ l2 := fun e => by rw [← e, hx2] at nl2; cases nl2
  have n12 : l1 ≠ l2 := fun e => by rw [← e, hl1] at nl2; cases nl2
  have nl2' : H l2 = none := k2.free nl2 (by simp; exact fun e => nx2 e.symm)
  walk_at "go"
  have e4 : putF "rows" (.ref l1) f3 = f3 ++ [(("rows" : Str), V.ref l1)] := by rw [← hf]; rfl
  refine ⟨x, C, dx, _, rfl, by rw [upd_ne nx2]; exact hx2, cc, n5, by rw [e4, List.length_append, l3]; simp, ?_⟩
  walk_at "go"
  have e5 : putF "handlers" (.ref l2) (putF "rows" (.ref l1) f3) = f3 ++ [(("rows" : Str), V.ref l1), (("handlers" : Str), V.ref l2)] := by rw [← hf]; rfl
  refine ⟨x, C, dx, _, rfl, upd_same, cc, n6, by rw [e5, List.length_append, l3]; simp, ?_⟩
  have e6 : putF "known_live" .non (putF "handlers" (.ref l2) (putF "rows" (.ref l1) f3)) = flds nm pa sz l1 l2 .non := by rw [← hf]; rfl
  rw [e6, upd_upd]
  refine q _ l1 l2 ((k2.trans (Keep.new nl2)).trans (Keep.put (by simp))) nl1' nl2' n12 upd_same ?_ ?_
  · rw [upd_ne nx1.symm, upd_ne n12]; exact hl1
  · rw [upd_ne nx2.symm]; exact upd_same
end LW
end
section
namespace LW
open CM
open PySem.PyData (strOk)
variable {K : PySem.W.Frag} {w : World} {mg : Str → Option Value} {A : Adr}
theorem tyx_list {H : Hp} {a : Addr} {xs : List V} (h : SqL K H a xs) : TyX K H (.ref a) (.type "list") := by
  rcases h with (h | ⟨o, h⟩) | ⟨o, its, n, e, c, _⟩
  · exact .base (.lst h)
  · exact .base (.frz h)
  · exact .kList e c
theorem tyx_tuple {H : Hp} {a : Addr} {xs : List V} (h : SqT K H a xs) : TyX K H (.ref a) (.type "tuple") := by
  rcases h with (h | ⟨o, h⟩) | ⟨o, its, n, e, c, _⟩
  · exact .base (.tup h)
  · exact .fTuple h
  · exact .kTuple e c
theorem dpA_len {H : Hp} : ∀ {xs : List V} {ds : List PyData}, DpAll K H xs ds → xs.length = ds.length
  | _, _, .nil => rfl
  | _, _, .cons _ t => by rw [List.length_cons, List.length_cons, dpA_len t]
theorem dpA_get {H : Hp} : ∀ {xs : List V} {ds : List PyData} {i : Nat}, DpAll K H xs ds → i < ds.length → ∃ v d, atI xs (0 + (i : Int)) = some v ∧ d ∈ ds ∧ Dp K H v d ∧ ds[i]? = some d ∧ xs[i]? = some v
  | _, _, i, .nil, h => by simp at h
  | v :: xs, d :: ds, 0, .cons h _, _ => ⟨v, d, by rw [Int.zero_add]; exact atI_nat rfl, by simp, h, rfl, rfl⟩
  | v :: xs, d :: ds, i + 1, .cons _ t, h => by
    obtain ⟨v2, d2, _, m, e2, e3, e4⟩ := dpA_get (i := i) t (by simpa using h)
    exact ⟨v2, d2, by rw [Int.zero_add]; exact atI_nat (by simpa using e4), by simp [m], e2, by simpa using e3, by simpa using e4⟩
theorem dpA_two {H : Hp} {xs ys : List V} {ds : List PyData} {i : Nat} (hx : DpAll K H xs ds) (hy : DpAll K H ys ds) (hi : i < ds.length) :
    ∃ v u d, atI xs (0 + (i : Int)) = some v ∧ atI ys (0 + (i : Int)) = some u ∧ d ∈ ds ∧ Dp K H v d ∧ Dp K H u d := by
  obtain ⟨v, d, h1, h2, h3, h4, _⟩ := dpA_get hx hi
  obtain ⟨u, d', g1, g2, g3, g4, _⟩ := dpA_get hy hi
  rw [h4] at g4
  cases g4
  exact ⟨v, u, d, h1, g1, h2, h3, g3⟩
theorem zero_law_same {vs H Q E} (h : sp_law_same 0 K vs H Q E) : False := by
  obtain ⟨x, y, d, _, _, _, _, h, _⟩ := h
  omega
theorem same_seq {n : Nat} {x y : V} {xs ys : List V} {ds : List PyData} {H : Hp} {Q : VK} (T : Txt K w mg A) (hx : DpAll K H xs ds) (hy : DpAll K H ys ds) (lx : ∀ (Q : VK) (H' : Hp), Keep [] H H' → Q (.int xs.length) H' → rLenS K [x] H' Q) (ly : ∀ (Q : VK) (H' : Hp), Keep [] H H' → Q (.int ys.length) H' → rLenS K [y] H' Q)
    (ix : ∀ (Q : VK) (H' : Hp) (i : Nat) (v : V), Keep [] H H' → atI xs (0 + (i : Int)) = some v → Q v H' → rIxQ K x (.int (0 + (i : Int))) H' Q) (iy : ∀ (Q : VK) (H' : Hp) (i : Nat) (v : V), Keep [] H H' → atI ys (0 + (i : Int)) = some v → Q v H' → rIxQ K y (.int (0 + (i : Int))) H' Q)
    (hg : gdA ds = true) (hl : ds.length ≤ 1000) (hd : PyData.depthAll ds < n) (q : ∀ H', Keep [] H H' → Q (.bl true) H') :
    (tAndV (tOp rEq (tCB (rLenS K) (tCons (tVar 0) tNil)) (tCB (rLenS K) (tCons (tVar 1) tNil))) (tCB (rAll K) (tCons (tLc (iRng1 (tCons (tCB (rLenS K) (tCons (tVar 1) tNil)) tNil)) (gName 2) tYes (tCall (sp_law_same n K) [] E0 (tCons (tOp (rIxQ K) (tVar 0) (tVar 2)) (tCons (tOp (rIxQ K) (tVar 1) (tVar 2)) tNil))) [2]) tNil))) [some x, some y, none] H Q := by
  have l1 := dpA_len hx
  have l2 := dpA_len hy
  walk_at "ex"
  refine lx _ _ Keep.refl ?_
  walk_at "ex"
  refine ly _ _ Keep.refl ?_
  walk_at "ex"
  refine go_ite_t (by rw [l1, l2]) ?_
  walk_at "ex"
  refine ly _ _ Keep.refl ?_
  refine ⟨_, rfl, by omega, by omega, ?_⟩
  refine go_lcRF (fun _ => .bl true) (fun _ => true) (szL (by omega)) (fun v => rfl) (fun i hi H' R k h => go_yes (h _ Keep.refl)) (fun i hi _ H' R k h => ?_) (fun Dn H' nD k hD => ?_)
  · obtain ⟨v, u, d, h1, h2, h3, h4, h5⟩ := dpA_two hx hy (i := i) (by omega)
    walk_at "ex"
    refine ix _ _ i v k h1 ?_
    walk_at "ex"
    refine iy _ _ i u k h2 ?_
    refine ⟨v, u, d, rfl, dp_keep k d v h4, dp_keep k d u h5, gdA_all.1 hg d h3, Nat.lt_of_le_of_lt (depthAll_ge h3) hd, h⟩
  · have e : ((List.range ((ys.length : Int)).toNat).filter fun _ => true).map (fun _ => V.bl true) = (List.replicate ys.length true).map V.bl := by
      rw [List.filter_eq_self.2 (fun _ _ => rfl), List.map_const', List.length_range, List.map_replicate]; rfl
    rw [e] at hD
    refine go_all (sqL hD) ?_
    have e2 : (List.replicate ys.length true).all id = true := by
      rw [List.all_eq_true]; intro b hb; rw [List.eq_of_mem_replicate hb]; rfl
    rw [e2]
    exact q _ k
theorem rd_law_same {n vs H Q E} (T : Txt K w mg A) (h : sp_law_same (n + 1) K vs H Q E) : t_law_same n K w A { nx := fun _ H' => Q .non H', rt := Q } (L2.start n_law_same vs) H := by
  obtain ⟨x, y, d, rfl, hx, hy, hg, hd, q⟩ := h
  unfold t_law_same
  show tSeq _ _ _ [some x, some y, none] H
  cases d with
  | none => cases hx; cases hy; walk_at "go"; exact q _ Keep.refl
  | bool b => simp [gd] at hg
  | dict b => simp [gd] at hg
  | int i =>
    cases hx; cases hy; walk_at "go"
    rw [decide_eq_true rfl]; exact q _ Keep.refl
  | str i =>
    cases hx; cases hy; walk_at "go"
    rw [decide_eq_true rfl]; exact q _ Keep.refl
  | list ds =>
    cases hx with
    | lst sx ax =>
      cases hy with
      | lst sy ay =>
        simp only [gd, Bool.and_eq_true, decide_eq_true_eq] at hg
        simp only [PyData.depth] at hd
        walk_at "go"
        refine go_isi (tyx_list sy) kit_list_list ?_
        walk_at "go"
        refine go_isi (tyx_list sy) kit_list_list ?_
        walk_at "go"
        refine go_isi (tyx_list sx) kit_list_list ?_
        walk_at "go"
        refine go_isi (tyx_list sy) kit_list_tuple ?_
        walk_at "ex"
        walk_at "stm"
        walk_at "stm"
        refine same_seq T ax ay (fun Q H' k h => go_lenL (k.seq (by simp) sx) h) (fun Q H' k h => go_lenL (k.seq (by simp) sy) h) (fun Q H' i v k e h => Or.inl (go_ixL (k.seq (by simp) sx) e h)) (fun Q H' i v k e h => Or.inl (go_ixL (k.seq (by simp) sy) e h)) hg.2 hg.1 (by omega) q
  | tuple ds =>
    cases hx with
    | tup sx ax =>
      cases hy with
      | tup sy ay =>
        simp only [gd, Bool.and_eq_true, decide_eq_true_eq] at hg
        simp only [PyData.depth] at hd
        walk_at "go"
        refine go_isi (tyx_tuple sy) kit_tuple_list ?_
        walk_at "go"
        refine go_isi (tyx_tuple sy) kit_tuple_tuple ?_
        walk_at "go"
        refine go_isi (tyx_tuple sy) kit_tuple_list ?_
        walk_at "go"
        refine go_isi (tyx_tuple sy) kit_tuple_tuple ?_
        walk_at "go"
        refine go_isi (tyx_tuple sx) kit_tuple_tuple ?_
        walk_at "ex"
        walk_at "stm"
        walk_at "stm"
        refine same_seq T ax ay (fun Q H' k h => go_lenT (k.tup (by simp) sx) h) (fun Q H' k h => go_lenT (k.tup (by simp) sy) h) (fun Q H' i v k e h => Or.inr (go_ixT (k.tup (by simp) sx) e h)) (fun Q H' i v k e h => Or.inr (go_ixT (k.tup (by simp) sy) e h)) hg.2 hg.1 (by omega) q
end LW
end
section
namespace LW
open CM
open PySem.PyData (strOk)
variable {K : PySem.W.Frag} {w : World} {mg : Str → Option Value} {A : Adr}
/-- for x in a list of images -/
theorem go_forM {D : Ends} {σ : L2.St} {H : Hp} {g : TG} {tb : TS} {a : Addr} {α : Type} {ms : List α} (f : α → V) (hS : SqL K H a (ms.map f)) (Pv : List α → L2.St → Hp → Prop) (h0 : Pv [] σ H) (hl : ∀ pre σ' H', Pv pre σ' H' → SqL K H' a (ms.map f))
    (hs : ∀ pre m post σ' H', ms = pre ++ m :: post → Pv pre σ' H' → g (f m) σ' H' fun σ2 H2 => tb { D with nx := Pv (pre ++ [m]), ct := Pv (pre ++ [m]), bk := D.nx } σ2 H2)
    (hd : ∀ σ' H', Pv ms σ' H' → D.nx σ' H') : ∃ a', V.ref a = .ref a' ∧ (∃ xs, SqL K H a' xs) ∧ ForQ (Itl K a') g tb D σ H := by
  refine go_forL hS (fun pre σ' H' => Pv (ms.take pre.length) σ' H') h0 (fun pre σ' H' p => hl _ _ _ p) (fun pre x post σ' H' e p => ?_) (fun σ' H' p => hd σ' H' ?_)
  · obtain ⟨l1, l2, e1, e2, e3⟩ := List.map_eq_append_iff.1 e
    cases l2 with
    | nil => simp at e3
    | cons m post' =>
      rw [List.map_cons] at e3
      obtain ⟨e4, _⟩ := List.cons.inj e3
      have hl1 : pre.length = l1.length := by rw [← e2, List.length_map]
      have t1 : ms.take pre.length = l1 := by rw [e1, hl1, List.take_left]
      have t2 : ms.take (pre ++ [x]).length = l1 ++ [m] := by
        rw [List.length_append, List.length_singleton, hl1, e1]
        rw [show l1 ++ m :: post' = (l1 ++ [m]) ++ post' by simp]
        rw [show l1.length + 1 = (l1 ++ [m]).length by simp, List.take_left]
      rw [t2, ← e4]
      rw [t1] at p
      exact hs l1 m post' σ' H' e1 p
  · rw [List.length_map, List.take_length] at p
    exact p
theorem bit_test (m i : Nat) : decide (Builtin.bitAnd ((m : Int) / 2 ^ ((0 + (i : Int)).toNat)) 1 = 1) = m.testBit i := by
  have e : (0 + (i : Int)).toNat = i := by omega
  rw [e]
  have e2 : (m : Int) / 2 ^ i = ((m / 2 ^ i : Nat) : Int) := by rw [Int.natCast_ediv]; simp
  have e3 := bitAnd_nat (m / 2 ^ i) 1
  rw [e2]
  rw [show ((1 : Nat) : Int) = 1 from rfl] at e3
  rw [e3, Nat.and_one_is_mod, Nat.testBit_eq_decide_div_mod_eq]
  by_cases h : m / 2 ^ i % 2 = 1
  · simp [h]
  · have h0 : m / 2 ^ i % 2 = 0 := by omega
    simp [h0]
theorem rd_slots_in {vs H Q E} (T : Txt K w mg A) (h : sp_slots_in K vs H Q E) : t_slots_in K w A { nx := fun _ H' => Q .non H', rt := Q } (L2.start n_slots_in vs) H := by
  obtain ⟨m, rfl, hm, q⟩ := h
  unfold t_slots_in
  show tRet _ _ [some (V.int m), none] H
  walk_at "go"
  have b := intBits_le hm
  have z1 : -(2 ^ 62) ≤ ((Builtin.Int.intBits (m : Int) : Nat) : Int) := by omega
  have z2 : ((Builtin.Int.intBits (m : Int) : Nat) : Int) < 2 ^ 62 := by omega
  refine ⟨_, rfl, z1, z2, ?_⟩
  rw [Int.toNat_natCast]
  refine go_lcRF (fun i => .int (0 + (i : Nat))) (fun i => m.testBit i) (szL (by omega)) (fun v => rfl) (fun i hi H' R k h => ?_) (fun i hi _ H' R k h => ?_) (fun Dn H' nD k hD => ?_)
  · walk_at "ex"
    refine ⟨_, _, rfl, rfl, by omega, ?_⟩
    walk_at "ex"
    rw [bit_test]
    exact h _ Keep.refl
  · walk_at "ex"
    exact h _ Keep.refl
  · refine q H' Dn k nD ?_
    rw [hD]
    have e := bits_eq (n := Builtin.Int.intBits (m : Int)) (f := fun i => m.testBit i) hm (fun k _ => rfl) (intBits_lt m)
    rw [← e, List.map_map]
    congr 3
    funext i
    simp
theorem orI_nat {a b : Nat} {H : Hp} {Q : VK} (q : Q (.int ((a ||| b : Nat) : Int)) H) : rOrI (.int a) (.int b) H Q := go_orI (by rw [bitOr_nat]; exact q)
theorem shl1 {x : Int} {H : Hp} {Q : VK} (h0 : 0 ≤ x) (h1 : x < 10) (q : Q (.int ((2 ^ x.toNat : Nat) : Int)) H) : rShlI (.int 1) (.int x) H Q :=
  ⟨_, _, rfl, rfl, ⟨h0, by omega, by decide⟩, by
    have e : (1 : Int) * 2 ^ x.toNat = ((2 ^ x.toNat : Nat) : Int) := by simp
    show Q (.int (1 * 2 ^ x.toNat)) H
    rw [e]; exact q⟩
theorem rd_mask_of {vs H Q E} (T : Txt K w mg A) (h : sp_mask_of K vs H Q E) : t_mask_of K w A { nx := fun _ H' => Q .non H', rt := Q } (L2.start n_mask_of vs) H := by
  obtain ⟨a, xs, rfl, hS, hx, q⟩ := h
  unfold t_mask_of
  show tSeq _ _ _ [some (V.ref a), none, none] H
  walk_at "go"
  refine go_forM V.int hS (fun pre σ' H' => ∃ x : Option V, σ' = [some (V.ref a), some (V.int (maskL pre)), x] ∧ H' = H) ⟨none, rfl, rfl⟩ (fun pre σ' H' p => ?_) (fun pre m post σ' H' e p => ?_) (fun σ' H' p => ?_)
  · obtain ⟨x, _, rfl⟩ := p; exact hS
  · obtain ⟨x, rfl, rfl⟩ := p
    have hm := hx m (by rw [e]; simp)
    walk_at "go"
    refine shl1 hm.1 hm.2 ?_
    refine orI_nat ?_
    refine ⟨some (.int m), ?_, rfl⟩
    have e2 : maskL (pre ++ [m]) = maskL pre ||| 2 ^ m.toNat := by unfold maskL orL; rw [List.map_append, List.foldl_append]; rfl
    rw [e2]; rfl
  · obtain ⟨x, rfl, rfl⟩ := p
    walk_at "go"
    exact q
theorem rd_without_slot {vs H Q E} (T : Txt K w mg A) (h : sp_without_slot K vs H Q E) : t_without_slot K w A { nx := fun _ H' => Q .non H', rt := Q } (L2.start n_without_slot vs) H := by
  obtain ⟨m, s, rfl, h0, h1, q⟩ := h
  unfold t_without_slot
  show tRet _ _ [some (V.int m), some (V.int s)] H
  walk_at "go"
  refine shl1 h0 h1 ?_
  walk_at "ex"
  rw [bitAnd_nat]
  have e : (m : Int) - ((m &&& 2 ^ s.toNat : Nat) : Int) = ((wo m s : Nat) : Int) := by
    unfold wo
    have := Nat.and_le_left (n := m) (m := 2 ^ s.toNat)
    omega
  rw [e]
  exact q
theorem go_notNo {o : Option Int} {H : Hp} {Q : VK} (q : Q (.bl o.isSome) H) : rNotN0 (optV o) .non H Q := by
  cases o
  · exact go_notN q
  · exact go_notNi q
theorem st_at {ms : List Nat} {x : Int} (h0 : 0 ≤ x) (h1 : x < ms.length) : atI (ms.map natV) x = some (.int (st ms x)) := by
  refine at_nat h0 ?_
  have h : x.toNat < ms.length := by omega
  rw [List.getElem?_map, List.getElem?_eq_getElem h]
  unfold CM.st
  rw [List.getD_eq_getElem?_getD, List.getElem?_eq_getElem h]
  rfl
theorem st_out {ms : List Nat} {x : Int} (h1 : ¬ x < ms.length) : st ms x = 0 := by
  unfold CM.st
  rw [List.getD_eq_getElem?_getD, List.getElem?_eq_none (by omega)]
  rfl
theorem later_nn {m s : Int} {i : Ins} {j : Nat} (ok : i.Ok m s) : ∀ x ∈ later i j, 0 ≤ x := by
  intro x hx
  cases i <;> simp only [later, List.mem_singleton] at hx
  case jump t => subst hx; exact ok.1
  case branch a t =>
    have := ok.2.1
    split at hx
    · simp at hx; omega
    · split at hx <;> · simp at hx; omega
  case one wd a =>
    split at hx
    · simp at hx
    · simp at hx; omega
  all_goals (subst hx; omega)
theorem CodeAt.keep {H H' : Hp} {p lr lh : Addr} {kl : V} {D : Drw} (k : Keep [] H H') (C : CodeAt K H p lr lh kl D) : CodeAt K H' p lr lh kl D := by
  obtain ⟨Cc, dx, c, n, h⟩ := C.at_
  exact ⟨⟨Cc, dx, c, n, k _ _ h (by simp)⟩, RowsAt.keep k noT_nil (by simp) C.rows, HandsAt.keep k noT_nil (by simp) C.hs⟩
theorem orL_snoc (xs : List Nat) (x : Nat) : orL (xs ++ [x]) = orL xs ||| x := by unfold orL; rw [List.foldl_append]; rfl
theorem rd_waiting_mask {vs H Q E} (T : Txt K w mg A) (h : sp_waiting_mask K vs H Q E) : t_waiting_mask K w A { nx := fun _ H' => Q .non H', rt := Q } (L2.start n_waiting_mask vs) H := by
  obtain ⟨p, lr, lh, lm, kl, D, ms, j, rfl, C, ok, hm, hl, hj, q⟩ := h
  have hi : D.rows[j]? = some D.rows[j] := List.getElem?_eq_getElem hj
  have oki := ok.row hi
  generalize D.rows[j] = i at hi oki
  unfold t_waiting_mask
  show tSeq _ _ _ [some (V.ref p), some (V.ref lm), some (V.int j), none, none, none, none] H
  walk_at "go"
  refine ⟨p, lr, lh, kl, D, j, i, rfl, C, hi, oki, fun H1 l k1 n1 h1 => ?_⟩
  have C1 := C.keep k1
  have hm1 := k1 _ _ hm (by simp)
  refine go_forM V.int (sqL h1) (fun pre σ' H' => ∃ x : Option V, σ' = [some (V.ref p), some (V.ref lm), some (V.int j), some (V.int (orL (pre.map (st ms)))), x, none, none] ∧ H' = H1) ⟨none, rfl, rfl⟩ (fun pre σ' H' p => ?_) (fun pre m post σ' H' e p => ?_) (fun σ' H' p => ?_)
  · obtain ⟨x, _, rfl⟩ := p; exact sqL h1
  · obtain ⟨x, rfl, rfl⟩ := p
    have h0 : 0 ≤ m := later_nn oki m (by rw [e]; simp)
    walk_at "go"
    rw [List.length_map]
    refine go_ite (fun h2 => ?_) (fun h2 => ?_)
    · walk_at "go"
      refine go_ixL (sqL hm1) (st_at h0 h2) ?_
      refine orI_nat ⟨some (.int m), ?_, rfl⟩
      rw [List.map_append, List.map_cons, List.map_nil, orL_snoc]
      rfl
    · walk_at "go"
      refine ⟨some (.int m), ?_, rfl⟩
      rw [List.map_append, List.map_cons, List.map_nil, orL_snoc, st_out h2, Nat.or_zero]
      rfl
  · obtain ⟨x, rfl, rfl⟩ := p
    obtain ⟨Cc, dx, cc, nc, hC⟩ := C1.at_
    obtain ⟨as, a, hlr, ha, hr⟩ := rowsAt_get C1.rows hi
    walk_at "go"
    refine ⟨p, Cc, dx, _, _, rfl, hC, cc, nc.2.2.2.1, rfl, ?_⟩
    walk_at "ex"
    refine go_ixL (sqL hlr) ha ?_
    refine ⟨a, i, _, _, rfl, hr, oki, ?_⟩
    walk_at "go"
    refine go_notNo ?_
    walk_at "ex"
    -- what is found so far
    have rest : ∀ (F : Nat) (σ' : L2.St), σ' = [some (V.ref p), some (V.ref lm), some (V.int j), some (V.int F), x, some (optV i.written), none] →
        ((match catcher D.hs j with | none => F | some h => F ||| wo (st ms h.2.2.1) h.2.2.2) = waitM D ms j) →
        tSeq (tAsg (tCall (sp_handler_at K) [] E0 (tCons (tVar 0) (tCons (tVar 2) tNil))) (gName 6)) (tSeq (tIfS (tAnd (tTest (tOp rNotN0 (tVar 6) (tC .non))) (tTest (tOp rLtI (tOp (rIxT K) (tVar 6) (tC (.int 2))) (tCB (rLenS K) (tCons (tVar 1) tNil)))))
          (tAsg (tOp rOrI (tVar 3) (tCall (sp_without_slot K) [] E0 (tCons (tOp (rIxL K) (tVar 1) (tOp (rIxT K) (tVar 6) (tC (.int 2)))) (tCons (tOp (rIxT K) (tVar 6) (tC (.int 3))) tNil)))) (gName 3))
          tNext) (tRet (tVar 3))) { nx := fun _ H' => Q .non H', rt := Q } σ' H' := by
      rintro F σ' rfl hF
      walk_at "go"
      refine ⟨p, lr, lh, kl, D, j, rfl, C1, fun v hv => ?_⟩
      cases ec : catcher D.hs j with
      | none =>
        rw [ec] at hv hF
        dsimp only at hF
        have hv : v = .non := hv
        subst hv hF
        walk_at "go"
        exact q _ k1
      | some hd =>
        rw [ec] at hv hF
        dsimp only at hF
        obtain ⟨b, rfl, hb⟩ := hv
        have hdo := ok.hs hd (List.mem_of_find?_eq_some ec)
        have s2 := ok.s2
        walk_at "go"
        rw [List.length_map]
        refine go_ite (fun h2 => ?_) (fun h2 => ?_)
        · walk_at "go"
          refine go_ixL (sqL hm1) (st_at hdo.to.1 h2) ?_
          walk_at "ex"
          have hs1 := hdo.sl.1
          have hs2 := hdo.sl.2
          refine ⟨_, _, rfl, hs1, by omega, orI_nat ?_⟩
          rw [hF]
          walk_at "go"
          exact q _ k1
        · exfalso
          have := hdo.to.2
          omega
    have e0 : waitM D ms j = (match catcher D.hs j with | none => (match i.written with | none => orL ((later i j).map (st ms)) | some s => wo (orL ((later i j).map (st ms))) s) | some h => (match i.written with | none => orL ((later i j).map (st ms)) | some s => wo (orL ((later i j).map (st ms))) s) ||| wo (st ms h.2.2.1) h.2.2.2) := by
      unfold waitM; first | (rw [hi]; done) | (rw [hi]; rfl)
    cases ew : i.written with
    | none =>
      rw [ew] at e0
      show if false = true then _ else _
      refine go_iteF ?_
      walk_at "stm"
      exact rest _ _ (by rw [ew]; rfl) e0.symm
    | some s =>
      rw [ew] at e0
      have hs := written_ok oki s ew
      have s2 := ok.s2
      show if true = true then _ else _
      refine go_iteT ?_
      walk_at "stm"
      walk_at "ex"
      have hs1 := hs.1
      have hs2 := hs.2
      refine ⟨_, _, rfl, hs1, by omega, ?_⟩
      exact rest _ _ (by rw [ew]; rfl) e0.symm
end LW
end
section
namespace LW
open CM
open PySem.PyData (strOk)
variable {K : PySem.W.Frag} {w : World} {mg : Str → Option Value} {A : Adr}
/-- [f x for x in a list of references]; new objects may come on the way -/
theorem go_lcPF {σ : L2.St} {H : Hp} {Q : VK} {te : TE} {vs : List Nat} {a : Addr} {j : Nat} {α : Type} {F : Addr → α → Prop} {as : List Addr} {ms : List α} (hp : Paired F as ms) (hS : SqL K H a (as.map V.ref)) (f : α → V) (hl : ms.length < sizeLine) (hw2 : ∀ v, wipe ((wipe σ vs).set j (some v)) vs = wipe σ vs)
    (he : ∀ b m, m ∈ ms → F b m → ∀ (H' : Hp) (R : VK), Keep [] H H' → (∀ H2, Keep [] H' H2 → R (f m) H2) → te ((wipe σ vs).set j (some (.ref b))) H' R)
    (hd : ∀ Dn H', H Dn = none → Keep [] H H' → H' Dn = some (.lst (ms.map f)) → Q (.ref Dn) H') : ∃ a', V.ref a = .ref a' ∧ (∃ xs, SqL K H a' xs) ∧ LcQ (Itl K a') (gName j) tYes te vs Q σ H := by
  refine go_lcL hS (fun Dn pre H' => Keep [] H H' ∧ H' Dn = some (.lst ((ms.take pre.length).map f))) (fun Dn hD => ⟨Keep.new hD, upd_same⟩) (fun Dn pre H' p => p.1.seq (by simp) hS) (fun Dn pre x post H' hD ex p => ?_) (fun Dn H' hD p => ?_)
  · obtain ⟨k, hn⟩ := p
    obtain ⟨b, m, rfl, hF, hm, hb, h1, h2, h3⟩ := refs_split hp ex
    refine ⟨hw2 _, go_yes ?_⟩
    rw [if_pos rfl]
    refine he b m hm hF H' _ k fun H2 k2 => ⟨_, k2 _ _ hn (by simp), ?_, (k.trans k2).fresh hD, ?_⟩
    · rw [List.length_map, List.length_take]; omega
    · rw [upd_same, h2, List.map_append]; rfl
  · obtain ⟨k, hn⟩ := p
    rw [List.length_map, Paired.length hp, List.take_length] at hn
    exact hd Dn H' hD k hn
/-- a range from its end -/
theorem go_forC {D : Ends} {σ : L2.St} {H : Hp} {g : TG} {tb : TS} {lo c : Int} {n : Nat} (Pv : Nat → L2.St → Hp → Prop) (h0 : Pv 0 σ H) (hs : ∀ (i : Nat) σ' H', i < n → Pv i σ' H' → g (.int (lo + i * c)) σ' H' fun σ2 H2 => tb { D with nx := Pv (i + 1), ct := Pv (i + 1), bk := D.nx } σ2 H2)
    (hd : ∀ σ' H', Pv n σ' H' → D.nx σ' H') : ForQ (Itc lo c n) g tb D σ H := by
  refine ⟨fun i m σ' H' => m = n - i ∧ i ≤ n ∧ Pv i σ' H', ⟨n, rfl, Nat.zero_le _, h0⟩, ?_⟩
  rintro i m σ' H' ⟨rfl, hi, p⟩
  by_cases h : i < n
  · refine .inr ⟨h, Pv (i + 1), fun σ2 H2 q => ⟨n - (i + 1), by omega, rfl, h, q⟩, ?_⟩
    rintro x H2 ⟨rfl, rfl⟩
    exact hs i σ' _ h p
  · have e : i = n := by omega
    subst e
    exact .inl ⟨Nat.le_refl _, hd _ _ p⟩
theorem nat_at {ms : List Nat} {j : Nat} (h : j < ms.length) : atI (ms.map natV) (j : Int) = some (.int (ms.getD j 0 : Nat)) := by
  refine atI_nat ?_
  rw [List.getElem?_map, List.getElem?_eq_getElem h, List.getD_eq_getElem?_getD, List.getElem?_eq_getElem h]
  rfl
theorem step_same {D : Drw} {ms : List Nat} {j : Nat} (h : ms.getD j 0 = upM D ms j) : CM.step D ms j = ms := by
  unfold CM.step
  rw [← h]
  apply List.ext_getElem?
  intro k
  rw [List.getElem?_set]
  by_cases e : j = k
  · subst e
    rw [if_pos rfl]
    by_cases h2 : j < ms.length
    · rw [if_pos h2, List.getD_eq_getElem?_getD, List.getElem?_eq_getElem h2]; rfl
    · rw [if_neg h2, List.getElem?_eq_none (by omega)]
  · rw [if_neg e]
theorem step_more {D : Drw} (o : D.Ok) {ms : List Nat} (f : Fine D ms) {j : Nat} (hj : j < D.rows.length) (h : ms.getD j 0 ≠ upM D ms j) : total ms < total (CM.step D ms j) := by
  obtain ⟨a, b⟩ := step_fine o f hj
  have l := total_mono (by rw [f.len, a.len]) b
  rcases Nat.lt_or_ge (total ms) (total (CM.step D ms j)) with h1 | h1
  · exact h1
  · exfalso
    have e := total_same (by rw [f.len, a.len]) b (fun m hm => lt1024 o (f.lt m hm)) (fun m hm => lt1024 o (a.lt m hm)) (by omega)
    apply h
    have e2 : (CM.step D ms j).getD j 0 = upM D ms j := by
      unfold CM.step; rw [getD_set, if_pos ⟨rfl, by rw [f.len]; exact hj⟩]
    rw [← e2, ← e]
theorem int_ne {a b : Nat} {H : Hp} {Q : VK} (q : Q (.bl (!decide (a = b))) H) : rNe (.int a) (.int b) H Q := go_neI (by
  have e : decide ((a : Int) = (b : Int)) = decide (a = b) := by
    by_cases h : a = b
    · subst h; simp
    · rw [decide_eq_false h, decide_eq_false (by omega)]
  rw [e]; exact q)
theorem keep_fr {H H1 H2 : Hp} {l : Addr} (a : Keep [] H H1) (b : Keep [l] H1 H2) (n : H l = none) : Keep [] H H2 := fun x o e m => by
  refine b _ _ (a _ _ e m) ?_
  simp
  intro z
  subst z
  rw [n] at e; cases e
theorem ixN_nat {n j : Nat} (h : j < n) : ixN n (j : Int) = some j := by
  unfold ixN
  rw [if_pos (by omega), if_pos (by omega), Int.toNat_natCast]
theorem go_revR {σ : L2.St} {H : Hp} {ta : TE} {R : It → Hp → Prop} (h : ta σ H fun x H1 => ∃ n, x = .int n ∧ -(2 ^ 62) ≤ (0 : Int) ∧ (0 : Int) < 2 ^ 62 ∧ -(2 ^ 62) ≤ n ∧ n < 2 ^ 62 ∧ R (Itc (0 + (((n - 0).toNat : Nat) : Int) - 1) (-1) (n - 0).toNat) H1) : iRevR (tRg1 ta) σ H R := h
abbrev step1 (D : Drw) (ms : List Nat) (j : Nat) : List Nat := CM.step D ms j
theorem rd_solved_masks {vs H Q E} (T : Txt K w mg A) (h : sp_solved_masks K vs H Q E) : t_solved_masks K w A { nx := fun _ H' => Q .non H', rt := Q } (L2.start n_solved_masks vs) H := by
  obtain ⟨p, lr, lh, kl, D, rfl, C, ok, q⟩ := h
  unfold t_solved_masks
  show tSeq _ _ _ [some (V.ref p), none, none, none, none, none, none] H
  obtain ⟨Cc, dx, cc, nc, hC⟩ := C.at_
  obtain ⟨as, hlr, hpr⟩ := C.rows
  have r1 := ok.r1
  have r2 := ok.r2
  have s2 := ok.s2
  walk_at "go"
  refine ⟨p, Cc, dx, _, _, rfl, hC, cc, nc.2.2.2.1, rfl, ?_⟩
  refine go_lcPF hpr (sqL hlr) (fun _ => .int 0) (szL (by omega)) (fun v => rfl) (fun b m _ _ H' R k h => h _ Keep.refl) (fun lm H1 nlm k1 hlm => ?_)
  walk_at "go"
  refine ⟨p, Cc, dx, _, _, rfl, k1 _ _ hC (by simp), cc, nc.2.2.2.1, rfl, ?_⟩
  refine go_lcPF (F := fun a i => RowAt K H1 a i) (Paired.mapP hpr fun a i e => e.keep k1 noT_nil) (sqL (k1 _ _ hlr (by simp))) (fun i => natV (maskL i.reads)) (szL (by omega)) (fun v => rfl) (fun b i hi hb H' R k h => ?_) (fun lg H2 nlg k2 hlg => ?_)
  · have oki := ok.rows i hi
    walk_at "ex"
    refine ⟨b, i, _, _, rfl, hb.keep k noT_nil, oki, fun H3 l k3 n3 h3 => ?_⟩
    walk_at "ex"
    refine ⟨l, i.reads, rfl, sqL h3, fun x hx => ?_, h _ k3⟩
    have := reads_ok oki x hx
    exact ⟨this.1, by have := this.2; omega⟩
  have k12 := k1.trans k2
  have C2 := C.keep k12
  have hlm2 := k2 _ _ hlm (by simp)
  have e0 : D.rows.map (fun _ => V.int 0) = (iter D 0).map natV := by
    unfold iter; rw [List.map_const', List.map_replicate]; rfl
  rw [e0] at hlm2
  have nlg0 : H lg = none := k1.free nlg (by simp)
  have nml : lm ≠ lg := fun e => by
    rw [← e] at nlg; rw [nlg] at hlm; cases hlm
  have hlg2 : H2 lg = some (.lst ((D.rows.map fun i => maskL i.reads).map natV)) := by rw [hlg, List.map_map]; rfl
  clear hlg hlm nlg k1 k2 e0 hpr hlr hC
  walk_at "stm"
  walk_at "stm"
  walk_at "exp"
  walk_at "stm"
  -- the rounds
  refine go_while (fun m σ' H' => ∃ (k : Nat) (b : Bool) (x4 x5 : Option V), σ' = [some (V.ref p), some (V.ref lm), some (V.ref lg), some (V.bl b), x4, x5, none] ∧ Keep [lm] H2 H' ∧ H' lm = some (.lst ((iter D k).map natV)) ∧
      (b = true → m = 302 - k ∧ ∀ i, i < k → round D (iter D i) ≠ iter D i) ∧ (b = false → iter D k = solM D)) 302 ⟨0, true, none, none, rfl, Keep.refl, hlm2, fun _ => ⟨rfl, fun i hi => by omega⟩, fun e => by cases e⟩ ?_
  rintro m σ' H' ⟨k, b, x4, x5, rfl, kk, hm, hb1, hb2⟩
  have nlm2 : H lm = none := nlm
  have kH : Keep [] H H' := keep_fr k12 kk nlm2
  cases b with
  | false =>
    walk_at "go"
    rw [hb2 rfl] at hm
    exact q _ _ kH nlm2 hm
  | true =>
    obtain ⟨rfl, hk⟩ := hb1 rfl
    have fk := iter_fine ok k
    have kle : k ≤ 300 := by
      have g := total_grow ok k hk
      have t := total_le ok fk
      have : D.rows.length * D.sz.toNat ≤ 30 * 10 := Nat.mul_le_mul r2 (by omega)
      omega
    walk_at "go"
    refine go_turn ?_
    walk_at "stm"
    walk_at "stm"
    walk_at "exp"
    walk_at "stm"
    refine go_revR ?_
    walk_at "ex"
    refine go_lenL (sqL (kk.at (by simp; exact fun e => nml e.symm) hlg2)) ?_
    rw [List.length_map, List.length_map]
    refine ⟨_, rfl, by decide, by decide, by omega, by omega, ?_⟩
    have en : ((D.rows.length : Int) - 0).toNat = D.rows.length := by omega
    rw [en, Int.zero_add]
    refine go_forC (fun i σ' H' => ∃ (c : Bool) (x4 x5 : Option V), σ' = [some (V.ref p), some (V.ref lm), some (V.ref lg), some (V.bl c), x4, x5, none] ∧ Keep [lm] H2 H' ∧ H' lm = some (.lst ((part D (iter D k) i).map natV)) ∧
      (c = false → part D (iter D k) i = iter D k) ∧ (c = true → total (iter D k) < total (part D (iter D k) i))) ⟨false, x4, x5, rfl, kk, hm, fun _ => rfl, fun e => by cases e⟩ (fun i σ3 H3 hi p => ?_) (fun σ3 H3 p => ?_)
    · obtain ⟨c, y4, y5, rfl, k3, hm3, c1, c2⟩ := p
      obtain ⟨fi, si⟩ := part_fine ok fk i (by omega)
      have e1 : (D.rows.length : Int) - 1 + (i : Int) * (-1) = ((D.rows.length - 1 - i : Nat) : Int) := by omega
      rw [e1]
      have hj : D.rows.length - 1 - i < D.rows.length := by omega
      have hpart : part D (iter D k) (i + 1) = step1 D (part D (iter D k) i) (D.rows.length - 1 - i) := rfl
      generalize D.rows.length - 1 - i = j at hj hpart
      generalize part D (iter D k) i = ms at fi si hm3 c1 c2 hpart
      have kH3 : Keep [] H H3 := keep_fr k12 k3 nlm2
      walk_at "go"
      refine go_ixL (sqL (k3.at (by simp; exact fun e => nml e.symm) hlg2)) (nat_at (by rw [List.length_map]; exact hj)) ?_
      walk_at "go"
      refine ⟨_, _, _, _, _, _, ms, j, rfl, C.keep kH3, ok, hm3, fi.len, hj, fun H4 k4 => ?_⟩
      have e2 : (D.rows.map fun i => maskL i.reads).getD j 0 ||| waitM D ms j = upM D ms j := by
        unfold upM
        rw [List.getD_eq_getElem?_getD, List.getElem?_map, List.getElem?_eq_getElem hj]; rfl
      refine orI_nat ?_
      rw [e2]
      have hm4 := k4 _ _ hm3 (by simp)
      walk_at "go"
      refine go_ixL (sqL hm4) (nat_at (by rw [fi.len]; exact hj)) ?_
      refine int_ne ?_
      walk_at "go"
      have k24 : Keep [lm] H2 H4 := k3.trans (keep0 k4)
      refine go_iteN (fun hne => ?_) (fun heq => ?_)
      · walk_at "go"
        refine go_setL (n := j) hm4 (by rw [List.length_map, fi.len]; exact ixN_nat hj) rfl ?_
        walk_at "go"
        have hmore := step_more ok fi hj (fun e => hne e.symm)
        have htot := total_mono (by rw [fk.len, fi.len]) si
        refine ⟨true, some (V.int j), some (V.int (upM D ms j)), rfl, k24.trans (Keep.put (by simp)), ?_, (fun e => by cases e), fun _ => ?_⟩
        · rw [upd_same, hpart]
          show _ = some (HO.lst ((ms.set j (upM D ms j)).map natV))
          rw [List.map_set]; rfl
        · rw [hpart]
          exact Nat.lt_of_le_of_lt htot hmore
      · walk_at "go"
        have e3 : step1 D ms j = ms := step_same heq.symm
        rw [← hpart] at e3
        refine ⟨c, some (V.int j), some (V.int (upM D ms j)), rfl, k24, ?_, fun e => ?_, fun e => ?_⟩
        · rw [e3]; exact hm4
        · rw [e3]; exact c1 e
        · rw [e3]; exact c2 e
    · obtain ⟨c, y4, y5, rfl, k3, hm3, c1, c2⟩ := p
      refine ⟨302 - (k + 1), by omega, k + 1, c, y4, y5, rfl, k3, hm3, fun e => ⟨rfl, fun i hi => ?_⟩, fun e => ?_⟩
      · by_cases h : i < k
        · exact hk i h
        · have e2 : i = k := by omega
          subst e2
          intro z
          have := c2 e
          have z2 : part D (iter D i) D.rows.length = iter D i := z
          rw [z2] at this
          omega
      · have z : round D (iter D k) = iter D k := c1 e
        show round D (iter D k) = _
        rw [z]
        exact fix_sol ok z
end LW
end
section
namespace LW
open CM
open PySem.PyData (strOk)
variable {K : PySem.W.Frag} {w : World} {mg : Str → Option Value} {A : Adr}
def rowsD (rows : List Ins) : PyData := .list (rows.map fun i => .tuple i.data)
def handsD (hs : List Hd) : PyData := .list (hs.map hdD)
theorem dpA_pairs {H : Hp} {α : Type} {F : Addr → α → Prop} {f : α → PyData} (hf : ∀ a m, F a m → Dp K H (.ref a) (f m)) : ∀ {as : List Addr} {ms : List α}, Paired F as ms → DpAll K H (as.map V.ref) (ms.map f)
  | _, _, .nil => .nil
  | _, _, .cons h t => .cons (hf _ _ h) (dpA_pairs hf t)
theorem RowsAt.dp {H : Hp} {l : Addr} {rows : List Ins} (h : RowsAt K H l rows) : Dp K H (.ref l) (rowsD rows) := by
  obtain ⟨as, h1, h2⟩ := h
  exact .lst (sqL h1) (dpA_pairs (fun a m e => e.1) h2)
theorem dp_hand {H : Hp} {a : Addr} {h : Hd} (e : HandAt K H a h) : Dp K H (.ref a) (hdD h) := .tup e (.cons (.int _) (.cons (.int _) (.cons (.int _) (.cons (.int _) .nil))))
theorem HandsAt.dp {H : Hp} {l : Addr} {hs : List Hd} (h : HandsAt K H l hs) : Dp K H (.ref l) (handsD hs) := by
  obtain ⟨as, h1, h2⟩ := h
  exact .lst (sqL h1) (dpA_pairs (fun a m e => dp_hand e) h2)
theorem rows_gd {D : Drw} (ok : D.Ok) : gd (rowsD D.rows) = true ∧ (rowsD D.rows).depth ≤ 3 := by
  constructor
  · unfold rowsD
    simp only [gd, Bool.and_eq_true, decide_eq_true_eq]
    refine ⟨by rw [List.length_map]; have := ok.r2; omega, gdA_all.2 fun d hd => ?_⟩
    obtain ⟨i, hi, rfl⟩ := List.mem_map.1 hd
    exact Ins.gd (ok.rows i hi)
  · unfold rowsD
    simp only [PyData.depth]
    have : PyData.depthAll (D.rows.map fun i => PyData.tuple i.data) ≤ 2 := depthAll_le fun d hd => by
      obtain ⟨i, hi, rfl⟩ := List.mem_map.1 hd
      exact Ins.depth (ok.rows i hi)
    omega
theorem hands_gd {D : Drw} (ok : D.Ok) : gd (handsD D.hs) = true ∧ (handsD D.hs).depth ≤ 3 := by
  constructor
  · unfold handsD
    simp only [gd, Bool.and_eq_true, decide_eq_true_eq]
    refine ⟨by rw [List.length_map]; have := ok.hl; omega, gdA_all.2 fun d hd => ?_⟩
    obtain ⟨i, hi, rfl⟩ := List.mem_map.1 hd
    rfl
  · unfold handsD
    simp only [PyData.depth]
    have : PyData.depthAll (D.hs.map hdD) ≤ 2 := depthAll_le fun d hd => by
      obtain ⟨i, hi, rfl⟩ := List.mem_map.1 hd
      simp [hdD, PyData.depth, PyData.depthAll]
    omega
theorem go_eqD {x y : V} {H : Hp} {Q : VK} {d : PyData} (hx : Dp K H x d) (hy : Dp K H y d) (g : gd d = true) (n : d.depth ≤ 64) (q : Q (.bl true) H) : rEqD K x y H Q :=
  ⟨d, d, hx, hy, gd_shaped g n, gd_shaped g n, by rw [gd_eqv d g]; exact q⟩
theorem NoT.ins {H : Hp} {p C dx : Addr} {fs : List (Str × V)} (h : H p = some (.ins C dx fs)) : NoT H [p] := noT_ins h noT_nil
theorem CodeAt.keepP {H H' : Hp} {p lr lh : Addr} {kl kl' : V} {D : Drw} (k : Keep [p] H H') (C : CodeAt K H p lr lh kl D) (h : ∃ C dx, Cls K C ∧ NoCode K C ∧ H' p = some (.ins C dx (flds D.nm D.pa D.sz lr lh kl'))) : CodeAt K H' p lr lh kl' D := by
  obtain ⟨Cc, dx, c, n, e⟩ := C.at_
  have nt : NoT H [p] := NoT.ins e
  obtain ⟨as, hr, _⟩ := C.rows
  obtain ⟨bs, hh, _⟩ := C.hs
  have n1 : lr ∉ [p] := by simp; rintro rfl; rw [e] at hr; cases hr
  have n2 : lh ∉ [p] := by simp; rintro rfl; rw [e] at hh; cases hh
  exact ⟨h, RowsAt.keep k nt n1 C.rows, HandsAt.keep k nt n2 C.hs⟩
theorem KLive.keep {H H' : Hp} {S T : List Addr} {kl : V} {D : Drw} (k : Keep S H H') (nt : NoT H S) (nl : ∀ (x : Addr) (xs : List V), H x = some (.lst xs) → x ∉ T → x ∉ S) (h : KLive K H T kl D) : KLive K H' T kl D := by
  rcases h with h | ⟨t, a, b, m, e, h1, h2, h3, h4, n1, n2, n3⟩
  · exact Or.inl h
  · obtain ⟨as, ha, ha2⟩ := h2
    obtain ⟨bs, hb, hb2⟩ := h3
    exact Or.inr ⟨t, a, b, m, e, k _ _ h1 (fun i => nt _ i _ (rdO h1)), RowsAt.keep k nt (nl _ _ ha n1) ⟨as, ha, ha2⟩, HandsAt.keep k nt (nl _ _ hb n2) ⟨bs, hb, hb2⟩, k _ _ h4 (nl _ _ h4 n3), n1, n2, n3⟩
theorem Live.keep {H H' : Hp} {p : Addr} {S : List Addr} {D : Drw} (k : Keep [] H H') (h : Live K H S p D) : Live K H' S p D := by
  obtain ⟨lr, lh, kl, C, L, n⟩ := h
  exact ⟨lr, lh, kl, C.keep k, L.keep k noT_nil (by simp), n⟩
/-- what is not of S may change -/
theorem Live.keepS {H H' : Hp} {p : Addr} {S : List Addr} {D : Drw} (k : Keep S H H') (nt : NoT H S) (h : Live K H S p D) : Live K H' S p D := by
  obtain ⟨lr, lh, kl, C, L, n0, n1, n2⟩ := h
  obtain ⟨Cc, dx, c, n, e⟩ := C.at_
  exact ⟨lr, lh, kl, ⟨⟨Cc, dx, c, n, k _ _ e n0⟩, RowsAt.keep k nt n1 C.rows, HandsAt.keep k nt n2 C.hs⟩, L.keep k nt (fun _ _ _ h => h), n0, n1, n2⟩
/-- another code may change -/
theorem Live.keepC {H H' : Hp} {p c C dx : Addr} {fs : List (Str × V)} {S : List Addr} {D : Drw} (k : Keep [c] H H') (hc : H c = some (.ins C dx fs)) (ne : p ≠ c) (h : Live K H S p D) : Live K H' S p D := by
  obtain ⟨lr, lh, kl, C1, L, n0, n1, n2⟩ := h
  obtain ⟨Cc, dx1, c1, n, e⟩ := C1.at_
  have nt : NoT H [c] := NoT.ins hc
  have off : ∀ (x : Addr) (xs : List V), H x = some (.lst xs) → x ∉ [c] := fun x xs h => by
    simp; rintro rfl; rw [hc] at h; cases h
  obtain ⟨as, hr, hr2⟩ := C1.rows
  obtain ⟨bs, hh, hh2⟩ := C1.hs
  exact ⟨lr, lh, kl, ⟨⟨Cc, dx1, c1, n, k _ _ e (by simpa using ne)⟩, RowsAt.keep k nt (off _ _ hr) ⟨as, hr, hr2⟩, HandsAt.keep k nt (off _ _ hh) ⟨bs, hh, hh2⟩⟩, L.keep k nt (fun x xs h _ => off x xs h), n0, n1, n2⟩
theorem Live.at_ {H : Hp} {p : Addr} {S : List Addr} {D : Drw} (h : Live K H S p D) : ∃ C dx fs, H p = some (.ins C dx fs) := by
  obtain ⟨_, _, _, C, _⟩ := h
  obtain ⟨C, dx, _, _, e⟩ := C.at_
  exact ⟨C, dx, _, e⟩
theorem Ex.new {H : Hp} {S : List Addr} {x : Addr} (e : Ex H S) (n : H x = none) : x ∉ S := fun m => by
  obtain ⟨o, h⟩ := e x m
  rw [n] at h; cases h
theorem Ex.keep {H H' : Hp} {S : List Addr} (k : Keep [] H H') (e : Ex H S) : Ex H' S := fun x m => by
  obtain ⟨o, h⟩ := e x m
  exact ⟨o, k _ _ h (by simp)⟩
theorem rd_live_masks {vs H Q E} (T : Txt K w mg A) (h : sp_live_masks K vs H Q E) : t_live_masks K w A { nx := fun _ H' => Q .non H', rt := Q } (L2.start n_live_masks vs) H := by
  obtain ⟨p, S, D, rfl, ⟨lr, lh, kl, C, L, o0, o1, o2⟩, ex, ok, q⟩ := h
  obtain ⟨Cc, dx, cc, nc, hC⟩ := C.at_
  unfold t_live_masks
  show tSeq _ _ _ [some (V.ref p), none, none] H
  walk_at "go"
  refine ⟨p, Cc, dx, _, kl, rfl, hC, cc, nc.2.2.2.2.2, rfl, ?_⟩
  rcases L with rfl | ⟨t, a, b, m, rfl, h1, h2, h3, h4, h5⟩
  · walk_at "go"
    refine ⟨p, lr, lh, .non, D, rfl, C, ok, fun H1 l k1 nl hl => ?_⟩
    have C1 := C.keep k1
    have hC1 := k1 _ _ hC (by simp)
    obtain ⟨as, har, hpr⟩ := C1.rows
    obtain ⟨bs, hbr, hph⟩ := C1.hs
    walk_at "go"
    refine ⟨p, Cc, dx, _, _, rfl, hC1, cc, nc.2.2.2.1, rfl, ?_⟩
    walk_at "ex"
    rename_i l2 nl2
    refine ⟨p, Cc, dx, _, _, rfl, Keep.new (S := []) nl2 _ _ hC1 (by simp), cc, nc.2.2.2.2.1, rfl, ?_⟩
    walk_at "ex"
    rename_i l3 nl3 l4 nl4
    generalize hH4 : upd (upd (upd H1 l2 _) l3 _) l4 _ = H4
    have k4 : Keep [] H1 H4 := by subst hH4; walk_at "keep"
    have e2 : H4 l2 = some (.lst (as.map V.ref)) := by subst hH4; walk_at "look"
    have e3 : H4 l3 = some (.lst (bs.map V.ref)) := by subst hH4; walk_at "look"
    have e4 : H4 l4 = some (.tup [.ref l2, .ref l3, .ref l]) := by subst hH4; walk_at "look"
    have C4 := C1.keep k4
    have hC4 := k4 _ _ hC1 (by simp)
    have hl4 := k4 _ _ hl (by simp)
    have nt : NoT H4 [p] := NoT.ins hC4
    have kp : Keep [p] H4 (upd H4 p (.ins Cc dx (flds D.nm D.pa D.sz lr lh (.ref l4)))) := Keep.put (by simp)
    have off : ∀ {x : Addr} {o : HO}, H4 x = some o → (∀ C dx l, o ≠ .ins C dx l) → x ≠ p := fun h n e => by
      rw [e, hC4] at h
      exact n _ _ _ (Option.some.inj h).symm
    have f2 : l2 ∉ S := ex.new (k1.free nl2 (by simp))
    have f3 : l3 ∉ S := ex.new (k1.free (by walk_at "free") (by simp))
    have k14 : Keep [p] H (upd H4 p (.ins Cc dx (flds D.nm D.pa D.sz lr lh (.ref l4)))) := (keep0 (k1.trans k4)).trans kp
    refine go_sfldE hC4 cc nc.2.2.2.2.2 (by show 6 < 1000; decide) (gs := flds D.nm D.pa D.sz lr lh (.ref l4)) rfl ?_
    walk_at "go"
    refine q _ l k14 ⟨lr, lh, .ref l4, CodeAt.keepP kp C4 ⟨Cc, dx, cc, nc, upd_same⟩, Or.inr ⟨l4, l2, l3, l, rfl, ?_, ?_, ?_, ?_, f2, f3, ex.new nl⟩, o0, o1, o2⟩ ?_
    · exact kp.at (by simp; exact off e4 (by simp)) e4
    · exact RowsAt.keep kp nt (by simp; exact off e2 (by simp)) ⟨as, e2, Paired.mapP hpr fun a i e => e.keep k4 noT_nil⟩
    · exact HandsAt.keep kp nt (by simp; exact off e3 (by simp)) ⟨bs, e3, Paired.mapP hph fun a i e => sqT_keep k4 noT_nil e⟩
    · exact kp.at (by simp; exact off hl4 (by simp)) hl4
    · exact kp.at (by simp; exact off hl4 (by simp)) hl4
  · walk_at "go"
    refine ⟨p, Cc, dx, _, _, rfl, hC, cc, nc.2.2.2.1, rfl, ?_⟩
    refine go_eqD h2.dp C.rows.dp (rows_gd ok).1 (by have := (rows_gd ok).2; omega) ?_
    walk_at "go"
    refine ⟨p, Cc, dx, _, _, rfl, hC, cc, nc.2.2.2.2.1, rfl, ?_⟩
    refine go_eqD h3.dp C.hs.dp (hands_gd ok).1 (by have := (hands_gd ok).2; omega) ?_
    walk_at "go"
    exact q _ m Keep.refl ⟨lr, lh, _, C, Or.inr ⟨t, a, b, m, rfl, h1, h2, h3, h4, h5⟩, o0, o1, o2⟩ h4
/-- [f x for x in xs], where each f x is a new object -/
theorem go_lcN {σ : L2.St} {H : Hp} {Q : VK} {te : TE} {vs : List Nat} {a : Addr} {j : Nat} {α : Type} {ms : List α} (f : α → V) (o : α → HO) (hS : SqL K H a (ms.map f)) (hl : ms.length < sizeLine) (hw2 : ∀ v, wipe ((wipe σ vs).set j (some v)) vs = wipe σ vs)
    (he : ∀ m, m ∈ ms → ∀ (H' : Hp) (R : VK), Keep [] H H' → (∀ H2 b, Keep [] H' H2 → H' b = none → H2 b = some (o m) → R (.ref b) H2) → te ((wipe σ vs).set j (some (f m))) H' R)
    (hd : ∀ Dn H' as, H Dn = none → Keep [] H H' → H' Dn = some (.lst (as.map V.ref)) → Paired (fun b m => H b = none ∧ b ≠ Dn ∧ H' b = some (o m)) as ms → Q (.ref Dn) H') : ∃ a', V.ref a = .ref a' ∧ (∃ xs, SqL K H a' xs) ∧ LcQ (Itl K a') (gName j) tYes te vs Q σ H := by
  refine go_lcL hS (fun Dn pre H' => Keep [] H H' ∧ ∃ as, H' Dn = some (.lst (as.map V.ref)) ∧ as.length = pre.length ∧ Paired (fun b m => H b = none ∧ b ≠ Dn ∧ H' b = some (o m)) as (ms.take pre.length)) (fun Dn hD => ⟨Keep.new hD, [], upd_same, rfl, .nil⟩) (fun Dn pre H' p => p.1.seq (by simp) hS) (fun Dn pre x post H' hD ex p => ?_) (fun Dn H' hD p => ?_)
  · obtain ⟨k, as, hn, hlen, hp⟩ := p
    have hi : pre.length < ms.length := by
      have := congrArg List.length ex
      rw [List.length_map, List.length_append, List.length_cons] at this
      omega
    have hx : x = f ms[pre.length] := by
      have e : (ms.map f)[pre.length]? = some x := by rw [ex]; simp
      rw [List.getElem?_map, List.getElem?_eq_getElem hi] at e
      exact (Option.some.inj e).symm
    subst hx
    refine ⟨hw2 _, go_yes ?_⟩
    rw [if_pos rfl]
    refine he _ (List.getElem_mem hi) H' _ k fun H2 b k2 nb hb => ⟨_, k2 _ _ hn (by simp), ?_, (k.trans k2).fresh hD, as ++ [b], ?_, ?_, ?_⟩
    · rw [List.length_map, hlen]; omega
    · rw [upd_same, List.map_append]; rfl
    · rw [List.length_append, List.length_append, hlen]; rfl
    · have nbD : b ≠ Dn := fun e => by rw [e] at nb; rw [nb] at hn; cases hn
      rw [List.length_append, List.length_singleton, List.take_succ_eq_append_getElem hi]
      refine Paired.app (Paired.mapP hp fun c m e => ⟨e.1, e.2.1, ?_⟩) (.cons ⟨k.free nb (by simp), nbD, ?_⟩ .nil)
      · rw [upd_ne e.2.1]; exact k2 _ _ e.2.2 (by simp)
      · rw [upd_ne nbD]; exact hb
  · obtain ⟨k, as, hn, hlen, hp⟩ := p
    rw [List.length_map, List.take_length] at hp
    exact hd Dn H' as hD k hn hp
theorem sol_len {D : Drw} (ok : D.Ok) : (solM D).length = D.rows.length := (sol_fine ok).len
/-- what is new may change -/
theorem keep_new {H H1 H2 : Hp} {S : List Addr} (a : Keep [] H H1) (b : Keep S H1 H2) (n : ∀ x ∈ S, H x = none) : Keep [] H H2 := fun x o e m => by
  refine b _ _ (a _ _ e m) fun i => ?_
  rw [n x i] at e; cases e
theorem paired_mem {α β : Type} {F : α → β → Prop} : ∀ {as : List α} {bs : List β} {a : α}, Paired F as bs → a ∈ as → ∃ b ∈ bs, F a b
  | _, _, _, .nil, h => by simp at h
  | _, _, _, .cons h t, m => by
    rcases List.mem_cons.1 m with e | m
    · subst e; exact ⟨_, by simp, h⟩
    · obtain ⟨b, hb, e⟩ := paired_mem t m
      exact ⟨b, by simp [hb], e⟩
theorem rd_live {vs H Q E} (T : Txt K w mg A) (h : sp_live K vs H Q E) : t_live K w A { nx := fun _ H' => Q .non H', rt := Q } (L2.start n_live vs) H := by
  obtain ⟨p, S, D, rfl, L, ex, ok, q⟩ := h
  unfold t_live
  show tRet _ _ [some (V.ref p), none] H
  walk_at "go"
  refine ⟨p, S, D, rfl, L, ex, ok, fun H1 m k1 L1 hm => ?_⟩
  have sf := sol_fine ok
  have r2 := ok.r2
  refine go_lcN natV (fun x => .lst ((bits x).map V.int)) (sqL hm) (szL (by rw [sf.len]; omega)) (fun v => rfl) (fun x hx H' R k h => ?_) (fun Dn H' as nD k hD hp => ?_)
  · walk_at "ex"
    exact ⟨x, rfl, lt1024 ok (sf.lt x hx), fun H2 l k2 nl hl => h H2 l k2 nl hl⟩
  · refine q H' Dn as (fun H2 k2 => ?_) hD (Paired.mapP hp fun b x e => e.2)
    have k3 : Keep [] H1 H2 := keep_new k k2 fun x hx => by
      rcases List.mem_cons.1 hx with e | e
      · subst e; exact nD
      · obtain ⟨_, _, z⟩ := paired_mem hp e
        exact z.1
    exact ⟨k1.trans (keep0 k3), L1.keep k3⟩
theorem rd_waiting {vs H Q E} (T : Txt K w mg A) (h : sp_waiting K vs H Q E) : t_waiting K w A { nx := fun _ H' => Q .non H', rt := Q } (L2.start n_waiting vs) H := by
  obtain ⟨p, S, D, j, rfl, L, ex, ok, hj, q⟩ := h
  unfold t_waiting
  show tRet _ _ [some (V.ref p), some (V.int j)] H
  walk_at "go"
  refine ⟨p, S, D, rfl, L, ex, ok, fun H1 m k1 L1 hm => ?_⟩
  have sf := sol_fine ok
  have L1' := L1
  obtain ⟨lr, lh, kl, C, KL, _⟩ := L1
  walk_at "go"
  refine ⟨p, lr, lh, m, kl, D, solM D, j, rfl, C, ok, hm, sf.len, hj, fun H2 k2 => ?_⟩
  walk_at "go"
  refine ⟨_, rfl, lt1024 ok (waitM_lt ok sf.lt hj), fun H3 l k3 nl hl => ?_⟩
  refine q H3 l (fun H4 k4 => ?_) hl
  have k5 : Keep [] H1 H4 := keep_new (k2.trans k3) k4 fun x hx => by
    rcases List.mem_cons.1 hx with e | e
    · subst e; exact k2.free nl (by simp)
    · simp at e
  exact ⟨k1.trans (keep0 k5), L1'.keep k5⟩
end LW
end
section
namespace LW
open CM
open PySem.PyData (strOk)
variable {K : PySem.W.Frag} {w : World} {mg : Str → Option Value} {A : Adr}
theorem later_lt {D : Drw} (ok : D.Ok) {i : Ins} {j : Nat} (hi : D.rows[j]? = some i) : ∀ x ∈ later i j, x < D.rows.length := by
  have oki := ok.row hi
  have hj : j < D.rows.length := (List.getElem?_eq_some_iff.mp hi).1
  have nx : ∀ wd : Str, i.word = wd → ¬ (wd = "jump" ∨ wd = "return" ∨ wd = "fail") → (j : Int) + 1 < D.rows.length := fun wd e h => by
    have : j ≠ D.rows.length - 1 := fun z => h (by rw [← e]; exact ok.last i (by rw [← z]; exact hi))
    omega
  intro x hx
  cases i <;> simp only [later, List.mem_singleton] at hx
  case jump t => subst hx; exact oki.2
  case branch a t =>
    have h2 := oki.2.2
    have h3 := nx "branch" rfl (by decide +kernel)
    split at hx
    · simp at hx; omega
    · split at hx <;> · simp at hx; omega
  case one wd a =>
    split at hx
    · simp at hx
    · rename_i hn
      simp at hx
      obtain ⟨e, _⟩ := oki
      rcases e with rfl | rfl | rfl | rfl
      · exact (hn (Or.inl rfl)).elim
      · have h3 := nx "say" rfl (by decide +kernel); omega
      · exact (hn (Or.inr rfl)).elim
      · have h3 := nx "load" rfl (by decide +kernel); omega
  case two wd a b =>
    obtain ⟨e, _⟩ := oki
    have h3 := nx wd rfl (by rcases e with rfl | rfl | rfl | rfl <;> decide +kernel)
    omega
  case nam wd a b =>
    obtain ⟨e, _⟩ := oki
    have h3 := nx wd rfl (by rcases e with rfl | rfl | rfl <;> decide +kernel)
    omega
  case three wd a b c =>
    obtain ⟨e, _⟩ := oki
    have h3 := nx wd rfl (by rcases e with rfl | rfl <;> decide +kernel)
    omega
  case const => have h3 := nx "const" rfl (by decide +kernel); omega
  case op => have h3 := nx "op" rfl (by decide +kernel); omega
  case setg => have h3 := nx "setg" rfl (by decide +kernel); omega
  case get => have h3 := nx "get" rfl (by decide +kernel); omega
  case put => have h3 := nx "put" rfl (by decide +kernel); omega
  case call => have h3 := nx "call" rfl (by decide +kernel); omega
  case callv => have h3 := nx "callv" rfl (by decide +kernel); omega
  case meth => have h3 := nx "method" rfl (by decide +kernel); omega
  case spawn => have h3 := nx "spawn" rfl (by decide +kernel); omega
  case pause => have h3 := nx "pause" rfl (by decide +kernel); omega
theorem later_len (i : Ins) (j : Int) : (later i j).length ≤ 2 := by
  cases i <;> simp only [later] <;> try simp
  case branch a t =>
    split
    · simp
    · split <;> simp
  case one wd a =>
    split <;> simp
theorem alive_at {H : Hp} {l : Addr} {ms : List Nat} (h : AliveAt H l ms) {x : Int} (h0 : 0 ≤ x) (h1 : x < ms.length) : ∃ (as : List Addr) (a : Addr), H l = some (.lst (as.map V.ref)) ∧ atI (as.map V.ref) x = some (.ref a) ∧ H a = some (.lst ((bits (CM.st ms x)).map V.int)) := by
  obtain ⟨as, e, hp⟩ := h
  have hl := Paired.length hp
  have hx : x.toNat < as.length := by omega
  obtain ⟨m, em, hm⟩ := Rf.Paired.get hp (List.getElem?_eq_getElem hx)
  refine ⟨as, as[x.toNat], e, at_nat h0 (by rw [List.getElem?_map, List.getElem?_eq_getElem hx]; rfl), ?_⟩
  have : CM.st ms x = m := by
    unfold CM.st; rw [List.getD_eq_getElem?_getD, em]; rfl
  rw [this]; exact hm
theorem AliveAt.keep {H H' : Hp} {l : Addr} {ms : List Nat} (k : Keep [] H H') (h : AliveAt H l ms) : AliveAt H' l ms := by
  obtain ⟨as, e, hp⟩ := h
  exact ⟨as, k _ _ e (by simp), Paired.mapP hp fun a m e => k _ _ e (by simp)⟩
theorem DrawnAt.keep0 {H H' : Hp} {q lr lh : Addr} {D : Drw} (k : Keep [] H H') (h : DrawnAt K H q lr lh D) : DrawnAt K H' q lr lh D :=
  ⟨k _ _ h.at_ (by simp), RowsAt.keep k noT_nil (by simp) h.rows, HandsAt.keep k noT_nil (by simp) h.hs⟩
theorem go_neDo {o : Option Int} {x : Int} {H : Hp} {Q : VK} (q : Q (.bl (!decide (o = some x))) H) : rNeD K (.int x) (optV o) H Q := by
  cases o with
  | none => exact ⟨.int x, .none, .int x, .non, rfl, rfl, q⟩
  | some y =>
    refine ⟨.int x, .int y, .int x, .int y, rfl, rfl, ?_⟩
    have e : PyData.eqv (.int x) (.int y) = decide (some y = some x) := by
      simp only [PyData.eqv]
      by_cases h : x = y
      · subst h; simp
      · have h' : ¬ y = x := fun z => h z.symm
        simp [h, h']
    rw [e]; exact q
theorem rd_law_waits {vs H Q E} (T : Txt K w mg A) (h : sp_law_waits K vs H Q E) : t_law_waits K w A { nx := fun _ H' => Q .non H', rt := Q } (L2.start n_law_waits vs) H := by
  obtain ⟨la, q0, lr, lh, D, ms, j, rfl, hA, hD, ok, hl, hlt, hj, q⟩ := h
  have hi : D.rows[j]? = some D.rows[j] := List.getElem?_eq_getElem hj
  have oki := ok.row hi
  generalize D.rows[j] = i at hi oki
  unfold t_law_waits
  show tSeq _ _ _ [some (V.ref la), some (V.ref q0), some (V.int j), none, none, none, none, none, none] H
  walk_at "go"
  rename_i l1 n1
  have k1 : Keep [] H (upd H l1 (.lst [])) := Keep.new n1
  have e1 : (upd H l1 (.lst [])) l1 = some (.lst []) := upd_same
  generalize upd H l1 (.lst []) = H1 at k1 e1
  clear n1
  have hD1 := hD.keep0 k1
  refine go_ixL (sqL hD1.at_) rfl ?_
  walk_at "go"
  refine ⟨lr, D.rows, j, i, rfl, hD1.rows, hi, ⟨_, _, oki⟩, fun H2 l2 k2 n2 h2 => ?_⟩
  have hA2 := (hA.keep k1).keep k2
  have e2 := k2 _ _ e1 (by simp)
  have ll := later_len i j
  refine go_forM V.int (sqL h2) (fun pre σ' H' => ∃ (l : Addr) (x : Option V), σ' = [some (V.ref la), some (V.ref q0), some (V.int j), some (V.ref l), x, none, none, none, none] ∧ Keep [] H2 H' ∧ H' l = some (.lst ((pre.flatMap fun x => bits (CM.st ms x)).map V.int)))
    ⟨l1, none, rfl, Keep.refl, e2⟩ (fun pre σ' H' p => ?_) (fun pre m post σ' H' e p => ?_) (fun σ' H' p => ?_)
  · obtain ⟨_, _, _, k, _⟩ := p
    exact k.seq (by simp) (sqL h2)
  · obtain ⟨l, x, rfl, k, e3⟩ := p
    have hm : m ∈ later i j := by rw [e]; simp
    obtain ⟨as, a, ea, ha, hb⟩ := alive_at (hA2.keep k) (later_nn oki m hm) (by rw [hl]; exact later_lt ok hi m hm)
    walk_at "go"
    refine go_ixL (sqL ea) ha ?_
    have z1 : (pre.flatMap fun x => bits (CM.st ms x)).length ≤ 10 * pre.length := by
      clear e e3
      induction pre with
      | nil => simp
      | cons y pre ih =>
        rw [List.flatMap_cons, List.length_append, List.length_cons]
        have := len_bits (CM.st ms y)
        omega
    have z2 : pre.length ≤ 2 := by
      have := congrArg List.length e
      rw [List.length_append, List.length_cons] at this; omega
    have z3 := len_bits (CM.st ms m)
    refine go_cat e3 hb (sz (by rw [List.length_map, List.length_map]; omega)) (fun l4 n4 => ?_)
    refine ⟨l4, some (.int m), rfl, k.trans (Keep.new n4), ?_⟩
    rw [upd_same, List.flatMap_append, List.map_append]
    simp
  · obtain ⟨l, x, rfl, k3, e3⟩ := p
    have z1 : ((later i j).flatMap fun x => bits (CM.st ms x)) = ((later i j).flatMap fun x => bits (CM.st ms x)) := rfl
    generalize hlat : ((later i j).flatMap fun x => bits (CM.st ms x)) = lat at e3
    clear z1
    walk_at "go"
    rename_i l5 n5
    have k4 : Keep [] H2 (upd H' l5 (.lst [])) := k3.trans (Keep.new n5)
    have e5 : (upd H' l5 (.lst [])) l5 = some (.lst ([].map V.int)) := upd_same
    have e6 : (upd H' l5 (.lst [])) l = some (.lst (lat.map V.int)) := Keep.new (S := []) n5 _ _ e3 (by simp)
    generalize upd H' l5 (.lst []) = H5 at k4 e5 e6
    have hD5 := (hD1.keep0 k2).keep0 k4
    refine go_ixL (sqL hD5.at_) rfl ?_
    walk_at "go"
    refine ⟨lh, D.hs, j, rfl, hD5.hs, fun v hv => ?_⟩
    have k15 : Keep [] H H5 := (k1.trans k2).trans k4
    clear n5 k3 e3
    dsimp only
    have rest : ∀ (σ' : L2.St) (H' : Hp), (∃ (lt : Addr) (x8 : Option V) (thr : List Int), σ' = [some (V.ref la), some (V.ref q0), some (V.int j), some (V.ref l), x, some (V.ref lt), some v, none, x8] ∧ Keep [] H5 H' ∧ H' lt = some (.lst (thr.map V.int)) ∧
        thr = match catcher D.hs j with | none => [] | some h => (bits (CM.st ms h.2.2.1)).filter fun y => !decide (y = h.2.2.2)) →
        tSeq (tAsg (tCall (sp_law_written K) [] E0 (tCons (tOp (rIxL K) (tOp (rIxL K) (tVar 1) (tC (.int 3))) (tVar 2)) tNil)) (gName 7))
          (tRet (tLc (iRng1 (tCons (tOp (rIxL K) (tVar 1) (tC (.int 2))) tNil)) (gName 8) (tOr (tAnd (tTest (tOp (rIn K false) (tVar 8) (tVar 3))) (tTest (tOp (rNeD K) (tVar 8) (tVar 7)))) (tTest (tOp (rIn K false) (tVar 8) (tVar 5)))) (tVar 8) [8])) { nx := fun _ H' => Q .non H', rt := Q } σ' H' := by
      rintro σ' H' ⟨lt, x8, thr, rfl, k6, e7, ht⟩
      have hD6 := hD5.keep0 k6
      obtain ⟨as, a, ea, ha, hr⟩ := rowsAt_get hD6.rows hi
      walk_at "go"
      refine go_ixL (sqL hD6.at_) rfl ?_
      walk_at "go"
      refine go_ixL (sqL ea) ha ?_
      refine ⟨a, i, _, _, rfl, hr, oki, fun H7 k7 => ?_⟩
      walk_at "go"
      refine go_ixL (sqL (hD6.keep0 k7).at_) rfl ?_
      have s1 := ok.s1
      have s2 := ok.s2
      refine ⟨_, rfl, by omega, by omega, ?_⟩
      have el := k7 _ _ (k6 _ _ e6 (by simp)) (by simp)
      have et := k7 _ _ e7 (by simp)
      have wb : ∀ k, (waitM D ms j).testBit k = (decide ((k : Int) ∈ lat) && !decide (i.written = some (k : Int)) || decide ((k : Int) ∈ thr)) := fun k => by
        rw [ok.wbit hi]
        unfold waitB
        have b1 : ((later i j).any fun x => (CM.st ms x).testBit k) = decide ((k : Int) ∈ lat) := by
          rw [Bool.eq_iff_iff, List.any_eq_true, decide_eq_true_iff, ← hlat, List.mem_flatMap]
          constructor
          · rintro ⟨y, hy, h⟩
            exact ⟨y, hy, (mem_bits (lt1024 ok (st_lt hlt y))).2 ⟨by omega, by simpa using h⟩⟩
          · rintro ⟨y, hy, h⟩
            have := (mem_bits (lt1024 ok (st_lt hlt y))).1 h
            exact ⟨y, hy, by simpa using this.2⟩
        rw [b1]
        congr 1
        cases ec : catcher D.hs j with
        | none => rw [ec] at ht; dsimp only at ht; subst ht; simp
        | some h =>
          rw [ec] at ht; dsimp only at ht ⊢; subst ht
          rw [Bool.eq_iff_iff, decide_eq_true_iff, List.mem_filter, mem_bits (lt1024 ok (st_lt hlt _)), Bool.and_eq_true]
          have c1 : decide (h.2.2.2 = (k : Int)) = decide ((k : Int) = h.2.2.2) := by
            by_cases z : h.2.2.2 = (k : Int)
            · rw [decide_eq_true z, decide_eq_true z.symm]
            · rw [decide_eq_false z, decide_eq_false fun y => z y.symm]
          rw [c1]
          simp
      refine go_lcRF (fun k => .int (0 + (k : Nat))) (fun k => (waitM D ms j).testBit k) (szL (by omega)) (fun v => rfl) (fun k hk H8 R k8 h => ?_) (fun k hk _ H8 R k8 h => ?_) (fun Dn H8 nD k8 hDn => ?_)
      · have wbk := wb k
        walk_at "ex"
        refine go_inI (sqL (k8 _ _ el (by simp))) ?_
        walk_at "ex"
        refine go_ite (fun h1 => ?_) (fun h1 => ?_)
        · walk_at "ex"
          refine go_neDo ?_
          walk_at "ex"
          have hh := h _ Keep.refl
          rw [Int.zero_add] at h1 ⊢
          refine go_iteN (fun h2 => ?_) (fun h2 => ?_)
          · rw [wbk, decide_eq_true h1, decide_eq_false h2] at hh
            exact hh
          · walk_at "ex"
            refine go_inI (sqL (k8 _ _ et (by simp))) ?_
            walk_at "ex"
            rw [wbk, decide_eq_true h1, decide_eq_true h2] at hh
            exact hh
        · walk_at "ex"
          refine go_inI (sqL (k8 _ _ et (by simp))) ?_
          walk_at "ex"
          have hh := h _ Keep.refl
          rw [Int.zero_add] at h1 ⊢
          rw [wbk, decide_eq_false h1, Bool.false_and, Bool.false_or] at hh
          exact hh
      · walk_at "ex"
        exact h _ Keep.refl
      · refine q H8 Dn (((k15.trans k6).trans k7).trans k8) (((k15.trans k6).trans k7).free nD (by simp)) ?_
        rw [hDn]
        have e := bits_eq (n := D.sz.toNat) (f := fun i => (waitM D ms j).testBit i) (lt1024 ok (waitM_lt ok hlt hj)) (fun k _ => rfl) (waitM_lt ok hlt hj)
        rw [← e, List.map_map]
        congr 3
        funext i
        simp
    refine go_seq (go_ifS ?_)
    cases ec : catcher D.hs j with
    | none =>
      rw [ec] at hv
      have hv : v = .non := hv
      subst hv
      walk_at "ex"
      exact go_next (rest _ _ ⟨l5, none, [], rfl, Keep.refl, e5, by rw [ec]⟩)
    | some h =>
      rw [ec] at hv
      obtain ⟨b, rfl, hb⟩ := hv
      have hdo := ok.hs h (List.mem_of_find?_eq_some ec)
      obtain ⟨as, a, ea, ha, hb2⟩ := alive_at (hA2.keep k4) hdo.to.1 (by rw [hl]; exact hdo.to.2)
      walk_at "ex"
      refine go_asgN ?_
      walk_at "ex"
      refine go_ixL (sqL ea) ha ?_
      have z3 := len_bits (CM.st ms h.2.2.1)
      refine go_lcLF (sqL hb2) (fun v => v) (fun v => match v with | .int y => !decide (y = h.2.2.2) | _ => false) (szL (by rw [List.length_map]; omega)) (fun v => rfl) (fun y hy H' R k h => ?_) (fun y hy _ H' R k h => ?_) (fun Dn H' nD k hDn => ?_)
      · obtain ⟨y, _, rfl⟩ := List.mem_map.1 hy
        walk_at "ex"
        refine go_ixT (k.tup (by simp) hb) rfl ?_
        walk_at "ex"
        exact h _ Keep.refl
      · walk_at "ex"
        exact h _ Keep.refl
      · refine rest _ _ ⟨Dn, none, _, rfl, k, ?_, by rw [ec]⟩
        rw [hDn, List.map_id', List.filter_map]
        rfl
end LW
end
section
namespace LW
open CM
open PySem.PyData (strOk)
variable {K : PySem.W.Frag} {w : World} {mg : Str → Option Value} {A : Adr}
/-- the lists of the law, all of them new -/
def AlvW (H H' : Hp) (l : Addr) (ms : List Nat) : Prop := ∃ as : List Addr, H' l = some (.lst (as.map V.ref)) ∧ Paired (fun a m => H a = none ∧ a ≠ l ∧ H' a = some (.lst ((bits m).map V.int))) as ms
theorem AlvW.at_ {H H' : Hp} {l : Addr} {ms : List Nat} (h : AlvW H H' l ms) : AliveAt H' l ms := by
  obtain ⟨as, e, hp⟩ := h
  exact ⟨as, e, Paired.mapP hp fun a m e => e.2.2⟩
theorem AlvW.keep {H H' H2 : Hp} {l : Addr} {ms : List Nat} (k : Keep [] H' H2) (h : AlvW H H' l ms) : AlvW H H2 l ms := by
  obtain ⟨as, e, hp⟩ := h
  exact ⟨as, k _ _ e (by simp), Paired.mapP hp fun a m e => ⟨e.1, e.2.1, k _ _ e.2.2 (by simp)⟩⟩
theorem Paired.set {α β : Type} {F : α → β → Prop} : ∀ {as : List α} {bs : List β} {j : Nat} {a : α} {b : β}, Paired F as bs → F a b → Paired F (as.set j a) (bs.set j b)
  | _, _, _, _, _, .nil, _ => .nil
  | _, _, 0, _, _, .cons _ t, e => .cons e t
  | _, _, j + 1, _, _, .cons h t, e => .cons h (Paired.set (j := j) t e)
theorem alv_sum {σ : L2.St} {H H0 : Hp} {Q : VK} {l : Addr} {ms : List Nat} (h : AlvW H0 H l ms) (hs : σ[3]? = some (some (.ref l))) (h11 : ∀ v, wipe ((wipe σ [11]).set 11 (some v)) [11] = wipe σ [11]) (g11 : ∀ v : V, ((wipe σ [11]).set 11 (some v))[11]? = some (some v)) (hl : ms.length ≤ 1000) (q : ∀ H', Keep [] H H' → Q (.int (total ms : Nat)) H') :
    (tCB (rSum K) (tCons (tLc (iList K (tVar 3)) (gName 11) tYes (tCB (rLenS K) (tCons (tVar 11) tNil)) [11]) tNil)) σ H Q := by
  obtain ⟨as, e, hp⟩ := h
  refine go_cb (go_cons (go_lc (go_iList (go_var hs ?_))))
  refine go_lcPF hp (sqL e) (fun m => .int (cnt m : Nat)) (szL (by omega)) h11 (fun b m hm hb H' R k h => ?_) (fun Dn H' nD k hDn => ?_)
  · refine go_cb (go_cons (go_var (g11 _) (go_nil ?_)))
    refine go_lenL (sqL (k _ _ hb.2.2 (by simp))) ?_
    rw [List.length_map]
    exact h _ Keep.refl
  · refine go_nil ?_
    have e1 : ms.map (fun m => V.int (cnt m : Nat)) = (ms.map fun m => ((cnt m : Nat) : Int)).map V.int := by rw [List.map_map]; rfl
    rw [e1] at hDn
    refine go_sum (sqL hDn) ?_
    have e2 : (ms.map fun m => ((cnt m : Nat) : Int)).sum = ((total ms : Nat) : Int) := by
      unfold total
      clear hDn e1 q hp hl e
      induction ms with
      | nil => rfl
      | cons m ms ih => rw [List.map_cons, List.sum_cons, ih, List.map_cons, List.sum_cons]; omega
    rw [e2]
    exact q _ k
theorem rd_law_alive {vs H Q E} (T : Txt K w mg A) (h : sp_law_alive K vs H Q E) : t_law_alive K w A { nx := fun _ H' => Q .non H', rt := Q } (L2.start n_law_alive vs) H := by
  obtain ⟨q0, lr, lh, D, rfl, hD, ok, q⟩ := h
  unfold t_law_alive
  show tSeq _ _ _ [some (V.ref q0), none, none, none, none, none, none, none, none, none, none, none, none] H
  obtain ⟨rs, hrs, hpr⟩ := hD.rows
  have r1 := ok.r1
  have r2 := ok.r2
  have s1 := ok.s1
  have s2 := ok.s2
  have hlr := Paired.length hpr
  walk_at "go"
  refine go_ixL (sqL hD.at_) rfl ?_
  walk_at "go"
  rw [List.length_map, hlr]
  refine go_lcN V.ref (fun _ => .lst []) (sqL hrs) (szL (by omega)) (fun v => rfl) (fun x hx H' R k h => ?_) (fun la H1 as nla k1 hla hp => ?_)
  · walk_at "ex"
    rename_i b nb
    exact h _ b (Keep.new nb) nb upd_same
  walk_at "go"
  have A0 : AlvW H H1 la (iter D 0) := by
    refine ⟨as, hla, ?_⟩
    unfold iter
    have : ∀ {as : List Addr} {rs : List Addr} {F : Addr → Prop}, Paired (fun b _ => F b) as rs → Paired (fun b m => F b ∧ m = 0) as (List.replicate rs.length 0) := by
      intro as rs F h
      induction h with
      | nil => exact .nil
      | cons h t ih => exact .cons ⟨h, rfl⟩ ih
    have h2 := this (F := fun b => H b = none ∧ b ≠ la ∧ H1 b = some (.lst [])) hp
    rw [hlr] at h2
    exact Paired.mapP h2 fun b m e => by obtain ⟨e, rfl⟩ := e; exact e
  clear hla hp
  refine go_ixL (sqL (hD.keep0 k1).at_) rfl ?_
  have hmul : ((D.rows.length : Nat) : Int) * D.sz = ((D.rows.length * D.sz.toNat : Nat) : Int) := by
    have : ((D.sz.toNat : Nat) : Int) = D.sz := by omega
    rw [Int.natCast_mul, this]
  have hmul2 : D.rows.length * D.sz.toNat ≤ 30 * 10 := Nat.mul_le_mul r2 (by omega)
  refine go_mul (Or.inl ⟨by omega, by omega⟩) ?_
  rw [hmul]
  walk_at "ex"
  refine ⟨_, rfl, by omega, by omega, ?_⟩
  have ent : (((D.rows.length * D.sz.toNat : Nat) : Int) + 1).toNat = D.rows.length * D.sz.toNat + 1 := by omega
  rw [ent]
  -- the end
  have fin : ∀ (σ' : L2.St) (H' : Hp), (σ'[3]? = some (some (.ref la)) ∧ Keep [] H H' ∧ AlvW H H' la (solM D)) → tRet (tVar 3) { nx := fun _ H' => Q .non H', rt := Q } σ' H' := by
    rintro σ' H' ⟨h1, h2, as, h3, h4⟩
    exact go_ret (go_var h1 (q _ la h2 ⟨nla, as, h3, h4⟩))
  generalize hc : D.rows.length = n at *
  refine go_forR (fun i σ' H' => ∃ (x4 x5 x6 x7 x8 x9 : Option V), σ' = [some (V.ref q0), some (V.ref lr), some (V.int n), some (V.ref la), x4, x5, x6, x7, x8, x9, none, none, none] ∧ Keep [] H H' ∧ AlvW H H' la (iter D i))
    ⟨none, none, none, none, none, none, rfl, k1, A0⟩ (fun i σ' H' hi p => ?_) (fun σ' H' p => ?_)
  · obtain ⟨x4, x5, x6, x7, x8, x9, rfl, k, W0⟩ := p
    have fk := iter_fine ok i
    refine go_gName ?_
    walk_at "stm"
    walk_at "stm"
    refine alv_sum W0 rfl (fun v => rfl) (fun v => rfl) (by rw [fk.len]; omega) (fun H2 k2 => ?_)
    have W2 := W0.keep k2
    walk_at "go"
    refine ⟨_, rfl, by omega, by omega, ?_⟩
    rw [Int.toNat_natCast]
    refine go_forR (fun j σ' H' => ∃ (x6 x7 x8 x9 : Option V), σ' = [some (V.ref q0), some (V.ref lr), some (V.int n), some (V.ref la), some (V.int (0 + (i : Nat))), some (V.int (total (iter D i) : Nat)), x6, x7, x8, x9, none, none, none] ∧ Keep [] H H' ∧ AlvW H H' la (part D (iter D i) j))
      ⟨x6, x7, x8, x9, rfl, k.trans k2, W2⟩ (fun j σ' H' hj p => ?_) (fun σ' H' p => ?_)
    · obtain ⟨x6, x7, x8, x9, rfl, k, W0⟩ := p
      obtain ⟨fi, si⟩ := part_fine ok fk j (by omega)
      have hjn : n - 1 - j < D.rows.length := by omega
      have e1 : (n : Int) - 1 - (0 + (j : Nat)) = ((n - 1 - j : Nat) : Int) := by omega
      have hpart : part D (iter D i) (j + 1) = CM.step D (part D (iter D i) j) (n - 1 - j) := by rw [← hc]; rfl
      generalize part D (iter D i) j = ms at fi si W0 hpart
      walk_at "go"
      rw [e1]
      generalize n - 1 - j = a at hjn hpart
      have hri : D.rows[a]? = some D.rows[a] := List.getElem?_eq_getElem hjn
      have oki := ok.row hri
      refine ⟨la, q0, lr, lh, D, ms, a, rfl, W0.at_, hD.keep0 k, ok, fi.len, fi.lt, hjn, fun H3 lw k3 nlw hlw => ?_⟩
      have W3 := W0.keep k3
      have kk3 := k.trans k3
      walk_at "go"
      obtain ⟨as, b, hb, ha, hr⟩ := rowsAt_get (hD.keep0 kk3).rows hri
      refine go_ixL (sqL hb) ha ?_
      walk_at "go"
      refine ⟨b, _, _, _, rfl, hr, oki, fun H4 lv k4 nlv hlv => ?_⟩
      have W4 := W3.keep k4
      have kk4 := kk3.trans k4
      have hlw4 := k4 _ _ hlw (by simp)
      walk_at "go"
      refine go_ixL (sqL (hD.keep0 kk4).at_) rfl ?_
      refine ⟨_, rfl, by omega, by omega, ?_⟩
      have hup := upM_lt ok fi.lt hjn
      refine go_lcRF (fun k => .int (0 + (k : Nat))) (fun k => (upM D ms a).testBit k) (szL (by omega)) (fun v => rfl) (fun k hk H8 R k8 h => ?_) (fun k hk _ H8 R k8 h => ?_) (fun Dn H8 nD k8 hDn => ?_)
      · have hh := h _ Keep.refl
        have wb : (upM D ms a).testBit k = (decide ((k : Int) ∈ bits (waitM D ms a)) || decide ((k : Int) ∈ D.rows[a].reads)) := by
          have e : upM D ms a = maskL D.rows[a].reads ||| waitM D ms a := by unfold upM; rw [hri]
          rw [e, Nat.testBit_or, maskL_bit, Bool.or_comm]
          congr 1
          · rw [Bool.eq_iff_iff, decide_eq_true_iff, mem_bits (lt1024 ok (waitM_lt ok fi.lt hjn))]
            simp
          · rw [Bool.eq_iff_iff, decide_eq_true_iff, List.any_eq_true]
            constructor
            · rintro ⟨y, hy, h⟩
              have := of_decide_eq_true h
              have h0 := (reads_ok oki y hy).1
              have : (k : Int) = y := by omega
              rw [this]; exact hy
            · intro hy
              exact ⟨_, hy, by simp⟩
        rw [wb] at hh
        walk_at "ex"
        refine go_inI (sqL (k8 _ _ hlw4 (by simp))) ?_
        walk_at "ex"
        rw [Int.zero_add]
        refine go_ite (fun h1 => ?_) (fun h1 => ?_)
        · rw [decide_eq_true h1] at hh
          exact hh
        · walk_at "ex"
          refine go_inI (sqL (k8 _ _ hlv (by simp))) ?_
          walk_at "ex"
          rw [decide_eq_false h1] at hh
          exact hh
      · walk_at "ex"
        exact h _ Keep.refl
      · have W8 := W4.keep k8
        have kk8 := kk4.trans k8
        obtain ⟨as, hla, hp⟩ := W8
        have hla' := Paired.length hp
        have nDl : Dn ≠ la := fun e => by
          obtain ⟨as2, z, _⟩ := W4
          rw [e, z] at nD; cases nD
        walk_at "go"
        refine go_setL (n := a) hla (by rw [List.length_map]; exact ixN_nat (by rw [hla', fi.len]; exact hjn)) rfl ?_
        walk_at "go"
        refine ⟨some (.int (0 + (j : Nat))), some (.int a), some (.ref lw), some (.ref lv), rfl, kk8.fresh nla, as.set a Dn, ?_, ?_⟩
        · rw [upd_same, List.map_set]
        · rw [hpart]
          show Paired _ _ (ms.set a (upM D ms a))
          have hbits := bits_eq (n := D.sz.toNat) (f := fun i => (upM D ms a).testBit i) (lt1024 ok hup) (fun k _ => rfl) hup
          refine Paired.set (Paired.mapP hp fun c m e => ⟨e.1, e.2.1, ?_⟩) ⟨kk4.free nD (by simp), nDl, ?_⟩
          · rw [upd_ne e.2.1]; exact e.2.2
          · rw [upd_ne nDl, hDn, ← hbits, List.map_map]
            congr 3
            funext i
            simp
    · obtain ⟨x6, x7, x8, x9, rfl, k, W0⟩ := p
      have e0 : part D (iter D i) n = iter D (i + 1) := by rw [← hc]; rfl
      rw [e0] at W0
      have fk1 := iter_fine ok (i + 1)
      walk_at "stm"
      walk_at "exp"
      walk_at "exp"
      refine alv_sum W0 rfl (fun v => rfl) (fun v => rfl) (by rw [fk1.len]; omega) (fun H2 k2 => ?_)
      walk_at "ex"
      refine go_ite (fun h => ?_) (fun h => ?_)
      · have e1 : round D (iter D i) = iter D i := round_fix ok fk (by
          have : total (iter D (i + 1)) = total (iter D i) := by omega
          exact this)
        have e2 : iter D (i + 1) = solM D := by
          show round D (iter D i) = _
          rw [e1]; exact fix_sol ok e1
        rw [e2] at W0
        exact go_brk (fin _ _ ⟨rfl, k.trans k2, W0.keep k2⟩)
      · exact go_next ⟨_, _, _, _, _, _, rfl, k.trans k2, W0.keep k2⟩
  · obtain ⟨x4, x5, x6, x7, x8, x9, rfl, k, W0⟩ := p
    rw [iter_end ok (by rw [hc]; omega)] at W0
    exact fin _ _ ⟨rfl, k, W0⟩
end LW
end
section
namespace LW
open CM
open PySem.PyData (strOk)
variable {K : PySem.W.Frag} {w : World} {mg : Str → Option Value} {A : Adr}
def masksD (ms : List Nat) : PyData := .list (ms.map fun m => .list (intsD (bits m)))
theorem dp_bits {H : Hp} {a : Addr} {m : Nat} (h : H a = some (.lst ((bits m).map V.int))) : Dp K H (.ref a) (.list (intsD (bits m))) := .lst (sqL h) (dpAll_ints _)
theorem dp_masks {H : Hp} {l : Addr} {as : List Addr} {ms : List Nat} (h : H l = some (.lst (as.map V.ref))) (hp : Paired (fun a m => H a = some (.lst ((bits m).map V.int))) as ms) : Dp K H (.ref l) (masksD ms) :=
  .lst (sqL h) (dpA_pairs (f := fun m => .list (intsD (bits m))) (fun a m e => dp_bits e) hp)
theorem bitsD_gd (m : Nat) : gd (.list (intsD (bits m))) = true ∧ (PyData.list (intsD (bits m))).depth ≤ 1 := by
  constructor
  · simp only [gd, Bool.and_eq_true, decide_eq_true_eq]
    refine ⟨?_, gd_ints _⟩
    unfold intsD
    rw [List.length_map]
    have := len_bits m
    omega
  · simp only [PyData.depth, depth_ints]; omega
theorem masks_gd {ms : List Nat} (h : ms.length ≤ 1000) : gd (masksD ms) = true ∧ (masksD ms).depth < 5 := by
  constructor
  · unfold masksD
    simp only [gd, Bool.and_eq_true, decide_eq_true_eq]
    refine ⟨by rw [List.length_map]; exact h, gdA_all.2 fun d hd => ?_⟩
    obtain ⟨m, _, rfl⟩ := List.mem_map.1 hd
    exact (bitsD_gd m).1
  · unfold masksD
    simp only [PyData.depth]
    have : PyData.depthAll (ms.map fun m => PyData.list (intsD (bits m))) ≤ 1 := depthAll_le fun d hd => by
      obtain ⟨m, _, rfl⟩ := List.mem_map.1 hd
      exact (bitsD_gd m).2
    omega
theorem AliveAt.dp {H : Hp} {l : Addr} {ms : List Nat} (h : AliveAt H l ms) : Dp K H (.ref l) (masksD ms) := by
  obtain ⟨as, e, hp⟩ := h
  exact dp_masks e hp
theorem keep_ins {H H' : Hp} {p x C dx : Addr} {fs : List (Str × V)} {o : HO} (k : Keep [p] H H') (hp : H p = some (.ins C dx fs)) (h : H x = some o) (n : ∀ C dx fs, o ≠ .ins C dx fs) : H' x = some o := k _ _ h (by
  simp
  rintro rfl
  rw [hp] at h
  exact n _ _ _ (Option.some.inj h).symm)
theorem AliveAt.keepC {H H' : Hp} {p l C dx : Addr} {fs : List (Str × V)} {ms : List Nat} (k : Keep [p] H H') (hp : H p = some (.ins C dx fs)) (h : AliveAt H l ms) : AliveAt H' l ms := by
  obtain ⟨as, e, h2⟩ := h
  exact ⟨as, keep_ins k hp e (by simp), Paired.mapP h2 fun a m e => keep_ins k hp e (by simp)⟩
theorem rd_law_live_agrees {vs H Q E} (T : Txt K w mg A) (h : sp_law_live_agrees K vs H Q E) : t_law_live_agrees K w A { nx := fun _ H' => Q .non H', rt := Q } (L2.start n_law_live_agrees vs) H := by
  obtain ⟨p, la, S, D, rfl, L, ex, hA, ok, q⟩ := h
  obtain ⟨C, dx, fs, hp⟩ := L.at_
  unfold t_law_live_agrees
  show tSeq _ _ _ [some (V.ref p), some (V.ref la), none, none] H
  walk_at "go"
  refine ⟨p, S, D, rfl, L, ex, ok, fun H1 l as st hl hq => ?_⟩
  have k1 := (st H1 Keep.refl).1
  have sl := sol_len ok
  have r2 := ok.r2
  walk_at "go"
  refine ⟨_, _, masksD (solM D), rfl, dp_masks hl (Paired.mapP hq fun a m e => e.2), (hA.keepC k1 hp).dp, (masks_gd (by rw [sl]; omega)).1, (masks_gd (by rw [sl]; omega)).2, fun H2 k2 => ?_⟩
  have lenas := Paired.length hq
  walk_at "go"
  have ne : ∀ a ∈ as, a ≠ l ∧ ∃ xs : List V, H2 a = some (.lst xs) ∧ xs.length ≤ 10 := fun a ha => by
    obtain ⟨m, _, e⟩ := paired_mem hq ha
    exact ⟨e.1, _, k2 _ _ e.2 (by simp), by rw [List.length_map]; exact len_bits m⟩
  refine go_forM V.ref (sqL (k2 _ _ hl (by simp))) (fun pre σ' H' => ∃ x : Option V, σ' = [some (V.ref p), some (V.ref la), some (V.ref l), x] ∧ Keep (l :: as) H2 H' ∧ H' l = some (.lst (as.map V.ref)) ∧ ∀ a ∈ as, ∃ xs : List V, H' a = some (.lst xs) ∧ xs.length ≤ 10 + pre.length)
    ⟨none, rfl, Keep.refl, k2 _ _ hl (by simp), fun a ha => (ne a ha).2⟩ (fun pre σ' H' p => ?_) (fun pre m post σ' H' e p => ?_) (fun σ' H' p => ?_)
  · obtain ⟨_, _, _, h, _⟩ := p; exact sqL h
  · obtain ⟨x, rfl, k, h1, h2⟩ := p
    have hm : m ∈ as := by rw [e]; simp
    obtain ⟨xs, hx, hxl⟩ := h2 m hm
    have hpl : pre.length < as.length := by rw [e]; simp
    walk_at "go"
    refine go_app hx (szL (by omega)) ?_
    refine ⟨some (.ref m), rfl, k.trans (Keep.put (by simp [hm])), ?_, fun a ha => ?_⟩
    · rw [upd_ne (ne m hm).1.symm]; exact h1
    · by_cases c : a = m
      · subst c
        exact ⟨_, upd_same, by rw [List.length_append, List.length_append, List.length_singleton, List.length_singleton]; omega⟩
      · obtain ⟨ys, hy, hyl⟩ := h2 a ha
        exact ⟨ys, by rw [upd_ne c]; exact hy, by rw [List.length_append]; omega⟩
  · obtain ⟨x, rfl, k, h1, h2⟩ := p
    walk_at "go"
    have s := st (upd H' l (.lst [])) (((keep0 k2).trans k).trans (Keep.put (by simp)))
    exact q _ s.1 s.2
theorem DrawnAt.keepC {H H' : Hp} {p q lr lh C dx : Addr} {fs : List (Str × V)} {D : Drw} (k : Keep [p] H H') (hp : H p = some (.ins C dx fs)) (h : DrawnAt K H q lr lh D) : DrawnAt K H' q lr lh D := by
  obtain ⟨h1, ⟨as, h2, h3⟩, ⟨bs, h4, h5⟩⟩ := h
  have nt : NoT H [p] := NoT.ins hp
  exact ⟨keep_ins k hp h1 (by simp), ⟨as, keep_ins k hp h2 (by simp), Paired.mapP h3 fun a m e => e.keep k nt⟩, ⟨bs, keep_ins k hp h4 (by simp), Paired.mapP h5 fun a m e => sqT_keep k nt e⟩⟩
theorem rd_law_waiting_agrees {vs H Q E} (T : Txt K w mg A) (h : sp_law_waiting_agrees K vs H Q E) : t_law_waiting_agrees K w A { nx := fun _ H' => Q .non H', rt := Q } (L2.start n_law_waiting_agrees vs) H := by
  obtain ⟨p, q0, lr, lh, la, lk, S, D, js, rfl, L, ex, hD, hA, ok, hlk, hjs, q⟩ := h
  obtain ⟨C, dx, fs, hp⟩ := L.at_
  unfold t_law_waiting_agrees
  show tSeq _ _ _ [some (V.ref p), some (V.ref q0), some (V.ref la), some (V.ref lk), none, none] H
  walk_at "go"
  refine go_forM natV (sqL hlk) (fun pre σ' H' => ∃ x4 x5 : Option V, σ' = [some (V.ref p), some (V.ref q0), some (V.ref la), some (V.ref lk), x4, x5] ∧ Keep [p] H H' ∧ Live K H' S p D) ⟨none, none, rfl, Keep.refl, L⟩ (fun pre σ' H' p => ?_) (fun pre m post σ' H' e p => ?_) (fun σ' H' p => ?_)
  · obtain ⟨_, _, _, k, _⟩ := p
    exact sqL (keep_ins k hp hlk (by simp))
  · obtain ⟨x4, x5, rfl, k, L1⟩ := p
    have hm : m < D.rows.length := hjs m (by rw [e]; simp)
    have ex1 : Ex H' S := fun x hx => by
      obtain ⟨o, h⟩ := ex x hx
      by_cases c : x = p
      · obtain ⟨_, _, _, z⟩ := L1.at_
        exact ⟨_, by rw [c]; exact z⟩
      · exact ⟨o, k _ _ h (by simpa using c)⟩
    refine go_gName ?_
    walk_at "stm"
    walk_at "stm"
    walk_at "ex"
    refine ⟨p, S, D, m, rfl, L1, ex1, ok, hm, fun H1 l st hl => ?_⟩
    have k1 : Keep [p] H H1 := k.trans (st H1 Keep.refl).1
    walk_at "go"
    refine ⟨la, q0, lr, lh, D, solM D, m, rfl, hA.keepC k1 hp, hD.keepC k1 hp, ok, sol_len ok, (sol_fine ok).lt, hm, fun H2 l2 k2 n2 h2 => ?_⟩
    have hl2 := k2 _ _ hl (by simp)
    walk_at "go"
    refine ⟨_, _, .list (intsD (bits (waitM D (solM D) m))), rfl, dp_bits hl2, dp_bits h2, (bitsD_gd _).1, by have := (bitsD_gd (waitM D (solM D) m)).2; omega, fun H3 k3 => ?_⟩
    have hl3 := k3 _ _ hl2 (by simp)
    walk_at "go"
    refine go_app hl3 (szL (by rw [List.length_map]; have := len_bits (waitM D (solM D) m); omega)) ?_
    have s := fun o => st (upd H3 l o) (((keep0 k2).trans (keep0 k3)).trans (Keep.put (by simp)))
    exact ⟨_, _, rfl, k.trans (s _).1, (s _).2⟩
  · obtain ⟨x4, x5, rfl, k, L1⟩ := p
    walk_at "go"
    exact q _ k L1
end LW
end
section
namespace LW
open CM
open PySem.PyData (strOk)
variable {K : PySem.W.Frag} {w : World} {mg : Str → Option Value} {A : Adr}
/-- [f x for x in a list of references], new objects with a property -/
theorem go_lcG2 {σ : L2.St} {H : Hp} {Q : VK} {te : TE} {vs : List Nat} {a : Addr} {j : Nat} {α : Type} {F : Addr → α → Prop} {as : List Addr} {ms : List α} (G : Addr → Hp → Addr → α → Prop) (hp : Paired F as ms) (hS : SqL K H a (as.map V.ref)) (hl : ms.length < sizeLine) (hw2 : ∀ v, wipe ((wipe σ vs).set j (some v)) vs = wipe σ vs)
    (hG : ∀ Dn H2 H3 b m, H Dn = none → Keep [] H H2 → (∃ l, H2 Dn = some (.lst l)) → Keep [Dn] H2 H3 → G Dn H2 b m → G Dn H3 b m) (hx : ∀ Dn H b m, G Dn H b m → ∃ o, H b = some o)
    (he : ∀ c m, m ∈ ms → F c m → ∀ Dn (H' : Hp) (R : VK), H Dn = none → Keep [] H H' → (∃ l, H' Dn = some (.lst l)) → (∀ H2 b, Keep [] H' H2 → H' b = none → G Dn H2 b m → R (.ref b) H2) → te ((wipe σ vs).set j (some (.ref c))) H' R)
    (hd : ∀ Dn H' bs, H Dn = none → Keep [] H H' → H' Dn = some (.lst (bs.map V.ref)) → bs.Nodup → Paired (fun b m => H b = none ∧ b ≠ Dn ∧ G Dn H' b m) bs ms → Q (.ref Dn) H') : ∃ a', V.ref a = .ref a' ∧ (∃ xs, SqL K H a' xs) ∧ LcQ (Itl K a') (gName j) tYes te vs Q σ H := by
  refine go_lcL hS (fun Dn pre H' => Keep [] H H' ∧ ∃ bs, H' Dn = some (.lst (bs.map V.ref)) ∧ bs.length = (ms.take pre.length).length ∧ bs.Nodup ∧ Paired (fun b m => H b = none ∧ b ≠ Dn ∧ G Dn H' b m) bs (ms.take pre.length)) (fun Dn hD => ⟨Keep.new hD, [], upd_same, by simp, List.nodup_nil, .nil⟩) (fun Dn pre H' p => p.1.seq (by simp) hS) (fun Dn pre x post H' hD ex p => ?_) (fun Dn H' hD p => ?_)
  · obtain ⟨k, bs, hn, hlen, hnd, hpp⟩ := p
    obtain ⟨c, m, rfl, hF, hm, hb, h1, h2, h3⟩ := refs_split hp ex
    refine ⟨hw2 _, go_yes ?_⟩
    rw [if_pos rfl]
    refine he c m hm hF Dn H' _ hD k ⟨_, hn⟩ fun H2 b k2 nb gb => ⟨_, k2 _ _ hn (by simp), ?_, (k.trans k2).fresh hD, bs ++ [b], ?_, ?_, ?_, ?_⟩
    · rw [List.length_map, hlen, List.length_take]; omega
    · rw [upd_same, List.map_append]; rfl
    · rw [h2, List.length_append, List.length_append, hlen]; rfl
    · rw [List.nodup_append]
      refine ⟨hnd, by simp, fun x hxm y hy e => ?_⟩
      simp only [List.mem_singleton] at hy
      subst hy; subst e
      obtain ⟨m2, _, z⟩ := paired_mem hpp hxm
      obtain ⟨o, ho⟩ := hx Dn H' x m2 z.2.2
      rw [nb] at ho; cases ho
    · have nbD : b ≠ Dn := fun e => by rw [e] at nb; rw [nb] at hn; cases hn
      have kp : Keep [Dn] H2 (upd H2 Dn (.lst (bs.map V.ref ++ [.ref b]))) := Keep.put (by simp)
      have hD2 := k2 _ _ hn (by simp)
      rw [h2]
      refine Paired.app (Paired.mapP hpp fun c m e => ⟨e.1, e.2.1, ?_⟩) (.cons ⟨k.free nb (by simp), nbD, ?_⟩ .nil)
      · exact hG Dn H' _ c m hD k ⟨_, hn⟩ ((keep0 k2).trans kp) e.2.2
      · exact hG Dn H2 _ b m hD (k.trans k2) ⟨_, hD2⟩ kp gb
  · obtain ⟨k, bs, hn, hlen, hnd, hpp⟩ := p
    rw [List.length_map, Paired.length hp, List.take_length] at hpp
    exact hd Dn H' bs hD k hn hnd hpp
abbrev Dq := Addr × Addr × Drw
def DrS (K : PySem.W.Frag) (H : Hp) (S : List Addr) (q : Addr) (m : Dq) : Prop := DrawnAt K H q m.1 m.2.1 m.2.2 ∧ q ∉ S ∧ m.1 ∉ S ∧ m.2.1 ∉ S
def AlvS (H : Hp) (S : List Addr) (l : Addr) (ms : List Nat) : Prop := l ∉ S ∧ ∃ as : List Addr, H l = some (.lst (as.map V.ref)) ∧ Paired (fun a m => a ∉ S ∧ H a = some (.lst ((bits m).map V.int))) as ms
theorem AlvS.at_ {H : Hp} {S : List Addr} {l : Addr} {ms : List Nat} (h : AlvS H S l ms) : AliveAt H l ms := by
  obtain ⟨_, as, e, hp⟩ := h
  exact ⟨as, e, Paired.mapP hp fun a m e => e.2⟩
theorem AlvS.keep {H H' : Hp} {S : List Addr} {l : Addr} {ms : List Nat} (k : Keep S H H') (h : AlvS H S l ms) : AlvS H' S l ms := by
  obtain ⟨n, as, e, hp⟩ := h
  exact ⟨n, as, k _ _ e n, Paired.mapP hp fun a m e => ⟨e.1, k _ _ e.2 e.1⟩⟩
theorem AlvS.keepC {H H' : Hp} {p l C dx : Addr} {S : List Addr} {fs : List (Str × V)} {ms : List Nat} (k : Keep [p] H H') (hp : H p = some (.ins C dx fs)) (h : AlvS H S l ms) : AlvS H' S l ms := by
  obtain ⟨n, as, e, h2⟩ := h
  exact ⟨n, as, keep_ins k hp e (by simp), Paired.mapP h2 fun a m e => ⟨e.1, keep_ins k hp e.2 (by simp)⟩⟩
theorem DrS.keep {H H' : Hp} {S : List Addr} {q : Addr} {m : Dq} (k : Keep S H H') (nt : NoT H S) (h : DrS K H S q m) : DrS K H' S q m :=
  ⟨⟨k _ _ h.1.at_ h.2.1, RowsAt.keep k nt h.2.2.1 h.1.rows, HandsAt.keep k nt h.2.2.2 h.1.hs⟩, h.2⟩
/-- all that stands while the law asks -/
structure Inv8 (K : PySem.W.Frag) (H : Hp) (p g l lp lc ls : Addr) (qs cs as : List Addr) (ms : List Dq) : Prop where
  box : Box H p g l
  hp : H lp = some (.lst (qs.map V.ref))
  hc : H lc = some (.lst (cs.map V.ref))
  hs : H ls = some (.lst (as.map V.ref))
  np : lp ∉ [p, g]
  nc : lc ∉ [p, g]
  ns : ls ∉ [p, g]
  dr : Paired (DrS K H [p, g]) qs ms
  lv : Paired (fun c (m : Dq) => Live K H [p, g] c m.2.2) cs ms
  al : Paired (fun a (m : Dq) => AlvS H [p, g] a (solM m.2.2)) as ms
  ok : ∀ m ∈ ms, m.2.2.Ok
  two : ms.length = 2
  nd : cs.Nodup
theorem Inv8.draw {H H' : Hp} {p g l lp lc ls : Addr} {qs cs as : List Addr} {ms : List Dq} (I : Inv8 K H p g l lp lc ls qs cs as ms) (k : Keep [p, g] H H') (b : Box H' p g l) : Inv8 K H' p g l lp lc ls qs cs as ms :=
  ⟨b, k _ _ I.hp I.np, k _ _ I.hc I.nc, k _ _ I.hs I.ns, I.np, I.nc, I.ns, Paired.mapP I.dr fun _ _ e => e.keep k I.box.noT, Paired.mapP I.lv fun _ _ e => e.keepS k I.box.noT, Paired.mapP I.al fun _ _ e => e.keep k, I.ok, I.two, I.nd⟩
theorem Inv8.keep {H H' : Hp} {p g l lp lc ls : Addr} {qs cs as : List Addr} {ms : List Dq} (I : Inv8 K H p g l lp lc ls qs cs as ms) (k : Keep [] H H') : Inv8 K H' p g l lp lc ls qs cs as ms :=
  I.draw (keep0 k) (I.box.keep k (by simp) (by simp) (by simp))
theorem Inv8.ex {H : Hp} {p g l lp lc ls : Addr} {qs cs as : List Addr} {ms : List Dq} (I : Inv8 K H p g l lp lc ls qs cs as ms) : Ex H [p, g] := fun x hx => by
  obtain ⟨h1, h2, _⟩ := I.box.there
  simp at hx
  rcases hx with rfl | rfl
  · exact h1
  · exact h2
theorem paired_nodup {α : Type} {F G : Addr → α → Prop} {c : Addr} {m : α} : ∀ {cs : List Addr} {ms : List α} {i : Nat}, Paired F cs ms → cs[i]? = some c → ms[i]? = some m → cs.Nodup → G c m → (∀ c' m', c' ≠ c → F c' m' → G c' m') → Paired G cs ms
  | _, _, _, .nil, _, _, _, _, _ => .nil
  | _, _, 0, .cons h t, e, em, nd, g, f => by
    simp at e em; subst e; subst em
    rw [List.nodup_cons] at nd
    exact .cons g (Paired.mapM t fun a b m e => f _ _ (fun z => nd.1 (z ▸ m)) e)
  | _, _, i + 1, .cons h t, e, em, nd, g, f => by
    simp at e em
    rw [List.nodup_cons] at nd
    exact .cons (f _ _ (fun z => nd.1 (z ▸ List.mem_of_getElem? e)) h) (paired_nodup t e em nd.2 g f)
theorem Inv8.agree {H H' : Hp} {p g l lp lc ls c : Addr} {qs cs as : List Addr} {ms : List Dq} {m : Dq} {i : Nat} (I : Inv8 K H p g l lp lc ls qs cs as ms) (hi : cs[i]? = some c) (hm : ms[i]? = some m) (hL : Live K H [p, g] c m.2.2) (k : Keep [c] H H') (L : Live K H' [p, g] c m.2.2) : Inv8 K H' p g l lp lc ls qs cs as ms := by
  obtain ⟨C, dx, fs, hc⟩ := hL.at_
  obtain ⟨gs, lls, b1, b2, e1, e2, e3, e4, e5⟩ := I.box
  refine ⟨⟨gs, lls, b1, b2, keep_ins k hc e1 (by simp), keep_ins k hc e2 (by simp), keep_ins k hc e3 (by simp), e4, e5⟩, keep_ins k hc I.hp (by simp), keep_ins k hc I.hc (by simp), keep_ins k hc I.hs (by simp), I.np, I.nc, I.ns,
    Paired.mapP I.dr fun _ _ e => ⟨e.1.keepC k hc, e.2⟩, ?_, Paired.mapP I.al fun _ _ e => e.keepC k hc, I.ok, I.two, I.nd⟩
  exact paired_nodup I.lv hi hm I.nd L fun c' m' ne e => e.keepC k hc ne
end LW
end
section
namespace LW
open CM
open PySem.PyData (strOk)
variable {K : PySem.W.Frag} {w : World} {mg : Str → Option Value} {A : Adr}
theorem agreeD {H : Hp} {a b : Addr} {D : Drw} (ok : D.Ok) (h1 : RowsAt K H a D.rows) (h2 : HandsAt K H b D.hs) {l : Addr} (hl : H l = some (.lst [.ref a, .ref b])) :
    Dp K H (.ref l) (.list [rowsD D.rows, handsD D.hs]) ∧ gd (.list [rowsD D.rows, handsD D.hs]) = true ∧ (PyData.list [rowsD D.rows, handsD D.hs]).depth < 5 := by
  refine ⟨.lst (sqL hl) (.cons h1.dp (.cons h2.dp .nil)), ?_, ?_⟩
  · simp only [gd, gdA, Bool.and_eq_true, decide_eq_true_eq]
    exact ⟨by simp, (rows_gd ok).1, (hands_gd ok).1, trivial⟩
  · simp only [PyData.depth, PyData.depthAll]
    have h1 := (rows_gd ok).2
    have h2 := (hands_gd ok).2
    omega
theorem go_lstRg1 {σ : L2.St} {H : Hp} {Q : VK} {ta : TE} (h : ta σ H fun x H1 => ∃ n, x = .int n ∧ RgOk 0 n ∧ ∀ q, H1 q = none → Q (.ref q) (upd H1 q (.lst (rgV 0 n)))) : tLstRg (tRg1 ta) σ H Q := h
theorem ref_at {as : List Addr} {k : Nat} {a : Addr} (h : as[k]? = some a) : atI (as.map V.ref) (k : Int) = some (.ref a) := atI_nat (by rw [List.getElem?_map, h]; rfl)
theorem rd_law {vs H Q E} (T : Txt K w mg A) (h : sp_law K vs H Q E) : t_law K w A { nx := fun _ H' => Q .non H', rt := Q } (L2.start n_law vs) H := by
  obtain ⟨a, ns, rfl, hS, hl, q⟩ := h
  unfold t_law
  show tSeq _ _ _ [some (V.ref a), none, none, none, none, none, none, none, none, none, none] H
  walk_at "go"
  refine ⟨a, ns, rfl, hS, hl, fun H1 p g l k1 np ng nl B1 => ?_⟩
  walk_at "stm"
  walk_at "stm"
  walk_at "ex"
  rename_i kn nkn
  have P2 : Pot (upd H1 kn (.lst [])) p g l kn := by
    obtain ⟨⟨o1, h1⟩, ⟨o2, h2⟩, ⟨o3, h3⟩⟩ := B1.there
    exact ⟨B1.new nkn, ⟨[], upd_same, by simp, by simp⟩, (fun e => by rw [e, h1] at nkn; cases nkn), (fun e => by rw [e, h2] at nkn; cases nkn), (fun e => by rw [e, h3] at nkn; cases nkn)⟩
  generalize upd H1 kn (.lst []) = H2 at P2
  clear nkn B1 k1 np ng nl hS
  walk_at "stm"
  walk_at "stm"
  walk_at "ex"
  refine ⟨p, g, l, kn, rfl, P2, fun q1 lr1 lh1 D1 H3 k3 P3 n1 n2 n3 d1 ok1 => ?_⟩
  walk_at "ex"
  refine ⟨p, g, l, kn, rfl, P3, fun q2 lr2 lh2 D2 H4 k4 P4 m1 m2 m3 d2 ok2 => ?_⟩
  walk_at "ex"
  rename_i lp nlp
  have nt3 := P3.noT
  have o1 := P2.off n1
  have o2 := P2.off n2
  have o3 := P2.off n3
  have o4 := P3.off m1
  have o5 := P3.off m2
  have o6 := P3.off m3
  have o7 := P4.off nlp
  have d1' : DrawnAt K H4 q1 lr1 lh1 D1 := ⟨k4 _ _ d1.at_ o1, RowsAt.keep k4 nt3 o2 d1.rows, HandsAt.keep k4 nt3 o3 d1.hs⟩
  have k5 : Keep [] H4 (upd H4 lp (.lst [.ref q1, .ref q2])) := Keep.new nlp
  have h5 : (upd H4 lp (.lst [.ref q1, .ref q2])) lp = some (.lst ([q1, q2].map V.ref)) := upd_same
  generalize upd H4 lp (.lst [.ref q1, .ref q2]) = H5 at k5 h5
  have P5 := P4.keep k5
  have off : ∀ {x : Addr}, x ∉ [p, g, kn] → x ∉ [p, g] := fun h => by
    simp only [List.mem_cons, List.not_mem_nil, or_false, not_or] at h ⊢
    exact ⟨h.1, h.2.1⟩
  obtain ⟨ms, hms⟩ : ∃ ms : List Dq, ms = [(lr1, lh1, D1), (lr2, lh2, D2)] := ⟨_, rfl⟩
  have dr : Paired (DrS K H5 [p, g]) [q1, q2] ms := by
    rw [hms]
    exact .cons ⟨d1'.keep0 k5, off o1, off o2, off o3⟩ (.cons ⟨d2.keep0 k5, off o4, off o5, off o6⟩ .nil)
  have okm : ∀ m ∈ ms, m.2.2.Ok := by
    rw [hms]; intro m hm
    simp only [List.mem_cons, List.not_mem_nil, or_false] at hm
    rcases hm with rfl | rfl
    · exact ok1
    · exact ok2
  have two : ms.length = 2 := by rw [hms]; rfl
  have nlp5 : lp ∉ [p, g] := off o7
  have B5 := P5.box
  generalize hqs : ([q1, q2] : List Addr) = qs at h5 dr
  clear hms d1 d2 d1' o1 o2 o3 o4 o5 o6 o7 m1 m2 m3 n1 n2 n3 nt3 P2 P3 P4 k3 k4 ok1 ok2 nlp P5 k5 off hqs q1 q2 lr1 lr2 lh1 lh2 D1 D2 H4 H3 H2 H1
  have mono3 : ∀ {S : List Addr} {Dn : Addr} {H H' : Hp}, Keep [Dn] H H' → Keep (Dn :: S) H H' := fun k => k.mono fun x hx => by simp at hx; subst hx; simp
  have nt3 : ∀ {Dn : Addr} {H2 : Hp}, Keep [] H5 H2 → (∃ l, H2 Dn = some (.lst l)) → NoT H2 [Dn, p, g] := fun {Dn H2} k hD => by
    obtain ⟨gs, ls, a1, b1, e1, e2, e3, _⟩ := B5
    obtain ⟨l, hD⟩ := hD
    exact noT_lst hD (noT_lst (k _ _ e1 (by simp)) (noT_lst (k _ _ e2 (by simp)) noT_nil))
  have ex3 : ∀ {Dn : Addr} {H2 : Hp}, Keep [] H5 H2 → (∃ l, H2 Dn = some (.lst l)) → Ex H2 [Dn, p, g] := fun {Dn H2} k hD x hx => by
    obtain ⟨gs, ls, a1, b1, e1, e2, e3, _⟩ := B5
    obtain ⟨l, hD⟩ := hD
    simp at hx
    rcases hx with rfl | rfl | rfl
    · exact ⟨_, hD⟩
    · exact ⟨_, k _ _ e1 (by simp)⟩
    · exact ⟨_, k _ _ e2 (by simp)⟩
  have last2 : ∀ {Dn x : Addr}, x ∉ [Dn, p, g] → x ∉ [p, g] := fun h m => h (by simp at m ⊢; exact Or.inr m)
  walk_at "stm"
  walk_at "stm"
  walk_at "ex"
  refine go_lcG2 (fun Dn H b (m : Dq) => Live K H [Dn, p, g] b m.2.2) dr (sqL h5) (szL (by omega)) (fun v => rfl) (fun Dn H2 H3 b m _ k hD k' L => L.keepS (mono3 k') (nt3 k hD)) (fun Dn H b m L => by obtain ⟨_, _, _, z⟩ := L.at_; exact ⟨_, z⟩) (fun c m hm hc Dn H' R nD k hDn h => ?_) (fun lc H6 cs nlc k6 hlc ndc hpc => ?_)
  · obtain ⟨lr, lh, D⟩ := m
    have okD := okm _ hm
    have dq := hc.1.keep0 k
    dsimp only at dq okD
    obtain ⟨ras, hra, hrp⟩ := dq.rows
    obtain ⟨has, hha, hhp⟩ := dq.hs
    walk_at "ex"
    refine go_ixL (sqL dq.at_) rfl ?_
    walk_at "ex"
    refine go_ixL (sqL dq.at_) rfl ?_
    walk_at "ex"
    refine go_ixL (sqL dq.at_) rfl ?_
    walk_at "ex"
    refine go_ixL (sqL dq.at_) rfl ?_
    walk_at "ex"
    rename_i l1 nl1
    refine go_ixL (sqL_upd (sqL dq.at_) nl1) rfl ?_
    walk_at "ex"
    rename_i l2 nl2
    intro x dx nx ndx ndxx
    generalize hHa : upd (upd H' l1 (.lst (ras.map V.ref))) l2 (.lst (has.map V.ref)) = Ha
    rw [hHa] at nx ndx
    have ka : Keep [] H' Ha := by subst hHa; walk_at "keep"
    have e1 : Ha l1 = some (.lst (ras.map V.ref)) := by subst hHa; walk_at "look"
    have e2 : Ha l2 = some (.lst (has.map V.ref)) := by subst hHa; walk_at "look"
    have kb : Keep [] Ha (upd (upd Ha dx (.own x)) x (.ins A.C_Code dx [])) := ((Keep.refl).trans (Keep.new ndx)).fresh nx
    refine ⟨x, A.C_Code, dx, l1, l2, D.nm, D.pa, D.sz, _, _, rfl, upd_same, T.q_Code, ⟨T.na_Code_name, T.na_Code_params, T.na_Code_size, T.na_Code_rows, T.na_Code_handlers, T.na_Code_known_live⟩, Or.inl (kb _ _ e1 (by simp)), Or.inl (kb _ _ e2 (by simp)), fun H3 lr' lh' k3 n1 n2 ne hx hlr hlh => ?_⟩
    have kab := ka.trans kb
    have nx' : H' x = none := ka.free nx (by simp)
    have kc : Keep [] H' H3 := keep_fr kab k3 nx'
    have E3 := ex3 k hDn
    refine ⟨rfl, h H3 x kc nx' ⟨lr', lh', .non, ⟨⟨_, dx, T.q_Code, ⟨T.na_Code_name, T.na_Code_params, T.na_Code_size, T.na_Code_rows, T.na_Code_handlers, T.na_Code_known_live⟩, hx⟩, ⟨ras, hlr, Paired.mapP hrp fun a i e => e.keep kc noT_nil⟩, ⟨has, hlh, Paired.mapP hhp fun a i e => sqT_keep kc noT_nil e⟩⟩, Or.inl rfl, E3.new nx', E3.new (kab.free n1 (by simp)), E3.new (kab.free n2 (by simp))⟩⟩
  have h6 := k6 _ _ h5 (by simp)
  have lv6 : Paired (fun c (m : Dq) => Live K H6 [p, g] c m.2.2) cs ms := Paired.mapP hpc fun c m e => by
    obtain ⟨_, _, lr, lh, kl, C, KL, z0, z1, z2⟩ := e
    refine ⟨lr, lh, kl, C, ?_, last2 z0, last2 z1, last2 z2⟩
    rcases KL with e | ⟨t, a, b, m, e, w1, w2, w3, w4, y1, y2, y3⟩
    · exact Or.inl e
    · exact Or.inr ⟨t, a, b, m, e, w1, w2, w3, w4, last2 y1, last2 y2, last2 y3⟩
  have dr6 : Paired (DrS K H6 [p, g]) qs ms := Paired.mapP dr fun c m e => ⟨e.1.keep0 k6, e.2⟩
  have nlc5 : lc ∉ [p, g] := fun m => by
    obtain ⟨w1, w2, w3⟩ := B5.there
    simp at m
    rcases m with rfl | rfl
    · obtain ⟨o, w1⟩ := w1; rw [w1] at nlc; cases nlc
    · obtain ⟨o, w2⟩ := w2; rw [w2] at nlc; cases nlc
  clear hpc
  walk_at "stm"
  walk_at "stm"
  walk_at "ex"
  refine go_lcG2 (fun Dn H b (m : Dq) => AlvS H [Dn, p, g] b (solM m.2.2)) dr6 (sqL h6) (szL (by omega)) (fun v => rfl) (fun Dn H2 H3 b m _ k hD k' L => L.keep (mono3 k')) (fun Dn H b m L => by obtain ⟨_, _, z, _⟩ := L; exact ⟨_, z⟩) (fun c m hm hc Dn H' R nD k hDn h => ?_) (fun ls H7 as nls k7 hls nds hps => ?_)
  · obtain ⟨lr, lh, D⟩ := m
    have okD := okm _ hm
    have dq := hc.1.keep0 k
    dsimp only at dq okD
    have E3 := ex3 (k6.trans k) hDn
    walk_at "ex"
    refine ⟨c, lr, lh, D, rfl, dq, okD, fun H2 b k2 z => ?_⟩
    obtain ⟨nb, as, e, hp⟩ := z
    exact h H2 b k2 nb ⟨E3.new nb, as, e, Paired.mapP hp fun a m e => ⟨E3.new e.1, e.2.2⟩⟩
  have I7 : Inv8 K H7 p g l lp lc ls qs cs as ms := by
    refine ⟨B5.keep (k6.trans k7) (by simp) (by simp) (by simp), k7 _ _ h6 (by simp), k7 _ _ hlc (by simp), hls, nlp5, nlc5, fun m => ?_, Paired.mapP dr6 fun c m e => ⟨e.1.keep0 k7, e.2⟩, Paired.mapP lv6 fun c m e => e.keep k7, Paired.mapP hps fun c m e => ?_, okm, two, ndc⟩
    · obtain ⟨⟨o1, w1⟩, ⟨o2, w2⟩, w3⟩ := B5.there
      simp at m
      rcases m with rfl | rfl
      · have := k6 _ _ w1 (by simp); rw [this] at nls; cases nls
      · have := k6 _ _ w2 (by simp); rw [this] at nls; cases nls
    · obtain ⟨_, _, z, as, e, hp⟩ := e
      exact ⟨last2 z, as, e, Paired.mapP hp fun a m e => ⟨last2 e.1, e.2⟩⟩
  clear hps hls lv6 dr6 nlc5 hlc k7 nls k6 nlc nds ndc h6 h5 dr B5 nlp5 mono3 nt3 ex3 last2 okm two
  walk_at "stm"
  walk_at "stm"
  walk_at "ex"
  refine ⟨_, rfl, by decide, by decide, ?_⟩
  refine go_forR (fun i σ' H' => ∃ (x6 x7 x8 x9 x10 : Option V), σ' = [some (V.ref a), some (V.ref p), some (V.ref kn), some (V.ref lp), some (V.ref lc), some (V.ref ls), x6, x7, x8, x9, x10] ∧ Inv8 K H' p g l lp lc ls qs cs as ms)
    ⟨none, none, none, none, none, rfl, I7⟩ (fun i σ' H' hi p => ?_) (fun σ' H' p => ?_)
  · obtain ⟨x6, x7, x8, x9, x10, rfl, I⟩ := p
    have hk : i % 2 < ms.length := by rw [I.two]; omega
    obtain ⟨k, hkd⟩ : ∃ k, k = i % 2 := ⟨_, rfl⟩
    rw [← hkd] at hk
    have em : ms[k]? = some ms[k] := List.getElem?_eq_getElem hk
    generalize ms[k] = m at em
    have hkq : k < qs.length := by rw [Paired.length I.dr]; exact hk
    have hkc : k < cs.length := by rw [Paired.length I.lv]; exact hk
    have hka : k < as.length := by rw [Paired.length I.al]; exact hk
    have eq : qs[k]? = some qs[k] := List.getElem?_eq_getElem hkq
    have ec : cs[k]? = some cs[k] := List.getElem?_eq_getElem hkc
    have ea : as[k]? = some as[k] := List.getElem?_eq_getElem hka
    generalize qs[k] = q1 at eq
    generalize cs[k] = c1 at ec
    generalize as[k] = a1 at ea
    have okm : m.2.2.Ok := I.ok m (List.mem_of_getElem? em)
    have gd : ∀ {H : Hp}, Inv8 K H p g l lp lc ls qs cs as ms → DrS K H [p, g] q1 m := fun I => by
      obtain ⟨m2, e, z⟩ := Rf.Paired.get I.dr eq
      rw [em] at e; cases e; exact z
    have gl : ∀ {H : Hp}, Inv8 K H p g l lp lc ls qs cs as ms → Live K H [p, g] c1 m.2.2 := fun I => by
      obtain ⟨m2, e, z⟩ := Rf.Paired.get I.lv ec
      rw [em] at e; cases e; exact z
    have ga : ∀ {H : Hp}, Inv8 K H p g l lp lc ls qs cs as ms → AlvS H [p, g] a1 (solM m.2.2) := fun I => by
      obtain ⟨m2, e, z⟩ := Rf.Paired.get I.al ea
      rw [em] at e; cases e; exact z
    have gq : ∀ {H : Hp}, Inv8 K H p g l lp lc ls qs cs as ms → ∀ {R : VK}, R (.ref q1) H → rIxL K (.ref lp) (.int k) H R := fun I R r => go_ixL (sqL I.hp) (ref_at eq) r
    have gc : ∀ {H : Hp}, Inv8 K H p g l lp lc ls qs cs as ms → ∀ {R : VK}, R (.ref c1) H → rIxL K (.ref lc) (.int k) H R := fun I R r => go_ixL (sqL I.hc) (ref_at ec) r
    have gs : ∀ {H : Hp}, Inv8 K H p g l lp lc ls qs cs as ms → ∀ {R : VK}, R (.ref a1) H → rIxL K (.ref ls) (.int k) H R := fun I R r => go_ixL (sqL I.hs) (ref_at ea) r
    have sl := sol_len okm
    have r1 := okm.r1
    have r2 := okm.r2
    have glen : ∀ {H : Hp}, Inv8 K H p g l lp lc ls qs cs as ms → ∀ {R : VK}, R (.int (m.2.2.rows.length : Nat)) H → rLenS K [.ref a1] H R := fun I R r => by
      obtain ⟨_, bs, e, hp⟩ := ga I
      refine go_lenL (sqL e) ?_
      rw [List.length_map, Paired.length hp, sl]; exact r
    refine go_gName ?_
    walk_at "stm"
    walk_at "stm"
    walk_at "ex"
    have e2 : ((0 : Int) + (i : Nat)) % 2 = ((k : Nat) : Int) := by omega
    rw [e2]
    walk_at "stm"
    walk_at "stm"
    refine go_lstRg1 ?_
    walk_at "ex"
    refine gs I ?_
    walk_at "ex"
    refine glen I ?_
    refine ⟨_, rfl, RgOk.of_le (by omega) (by omega) (by omega) (by omega), fun lk nlk => ?_⟩
    have erg : rgV 0 ((m.2.2.rows.length : Nat) : Int) = (List.range m.2.2.rows.length).map natV := by
      unfold rgV
      have z : (((m.2.2.rows.length : Nat) : Int) - 0).toNat = m.2.2.rows.length := by omega
      rw [z]
      apply List.map_congr_left
      intro x _
      show V.int (0 + (x : Nat)) = V.int (x : Nat)
      rw [Int.zero_add]
    rw [erg]
    have I1 := I.keep (Keep.new (o := .lst ((List.range m.2.2.rows.length).map natV)) nlk)
    have hlk : (upd H' lk (.lst ((List.range m.2.2.rows.length).map natV))) lk = some (.lst ((List.range m.2.2.rows.length).map natV)) := upd_same
    have olk : lk ∉ [p, g] := I.box.off nlk
    have bound : ∀ x ∈ List.range m.2.2.rows.length, x < m.2.2.rows.length := fun x hx => List.mem_range.1 hx
    generalize upd H' lk (.lst ((List.range m.2.2.rows.length).map natV)) = H1 at I1 hlk
    generalize List.range m.2.2.rows.length = js at hlk bound
    clear I nlk erg hkq hkc hka hk hkd
    dsimp only
    refine seq_rest (fun σ' H' => ∃ (lk : Addr) (js : List Nat) (x9 x10 : Option V), σ' = [some (V.ref a), some (V.ref p), some (V.ref kn), some (V.ref lp), some (V.ref lc), some (V.ref ls), some (V.int (0 + (i : Nat))), some (V.int (k : Nat)), some (V.ref lk), x9, x10] ∧ Inv8 K H' p g l lp lc ls qs cs as ms ∧
        H' lk = some (.lst (js.map natV)) ∧ lk ∉ [p, g] ∧ ∀ x ∈ js, x < m.2.2.rows.length) (fun σ' H' h => ?_) (fun rest => ?_)
    · obtain ⟨lk, js, x9, x10, rfl, I, hlk, olk, bound⟩ := h
      walk_at "stm"
      walk_at "stm"
      walk_at "ex"
      rename_i l1 n1 l2 n2 l3 n3
      generalize hH2 : upd (upd (upd H' l1 _) l2 _) l3 _ = H2
      have k2 : Keep [] H' H2 := by subst hH2; walk_at "keep"
      have w1 : H2 l1 = some (.lst (([0, 1] : List Int).map V.int)) := by subst hH2; walk_at "look"
      have w2 : H2 l2 = some (.lst (([1, 0] : List Int).map V.int)) := by subst hH2; walk_at "look"
      have w3 : H2 l3 = some (.lst [.ref l1, .ref l2]) := by subst hH2; exact upd_same
      have nl1 : H' l1 = none := n1
      have nl2 : H' l2 = none := by walk_at "free"
      have nl3 : H' l3 = none := by walk_at "free"
      have f1 := I.box.off nl1
      have f2 := I.box.off nl2
      have f3 := I.box.off nl3
      clear hH2 n1 n2 n3
      have I2 := I.keep k2
      have hlk2 := k2 _ _ hlk (by simp)
      clear I hlk k2 nl1 nl2 nl3
      refine ⟨p, g, l, 2, rfl, I2.box, by omega, by omega, fun r H3 r0 r1 k3 B3 => ?_⟩
      have I3 := I2.draw k3 B3
      have hlk3 := k3 _ _ hlk2 olk
      have w13 := k3 _ _ w1 f1
      have w23 := k3 _ _ w2 f2
      have w33 := k3 _ _ w3 f3
      obtain ⟨lw, ws, hat, hlw, hws⟩ : ∃ (lw : Addr) (ws : List Int), atI [V.ref l1, V.ref l2] r = some (.ref lw) ∧ H3 lw = some (.lst (ws.map V.int)) ∧ ∀ x ∈ ws, x = 0 ∨ x = 1 := by
        have : r = 0 ∨ r = 1 := by omega
        rcases this with rfl | rfl
        · exact ⟨l1, _, rfl, w13, by simp⟩
        · exact ⟨l2, _, rfl, w23, by simp⟩
      refine go_ixL (sqL w33) hat ?_
      clear I2 hlk2 k3 B3 w1 w2 w3 w13 w23 w33 hat f1 f2 f3
      refine go_forM V.int (sqL hlw) (fun pre σ' H' => ∃ (x9 x10 : Option V), σ' = [some (V.ref a), some (V.ref p), some (V.ref kn), some (V.ref lp), some (V.ref lc), some (V.ref ls), some (V.int (0 + (i : Nat))), some (V.int (k : Nat)), some (V.ref lk), x9, x10] ∧ Inv8 K H' p g l lp lc ls qs cs as ms ∧
        H' lk = some (.lst (js.map natV)) ∧ H' lw = some (.lst (ws.map V.int))) ⟨x9, x10, rfl, I3, hlk3, hlw⟩ (fun pre σ' H' p => ?_) (fun pre x post σ' H' e p => ?_) (fun σ' H' p => ?_)
      · obtain ⟨_, _, _, _, _, h⟩ := p; exact sqL h
      · obtain ⟨x9, x10, rfl, I, hlk, hlw⟩ := p
        have hx := hws x (by rw [e]; simp)
        refine go_gName ?_
        dsimp only
        refine seq_rest (fun σ' H' => σ' = [some (V.ref a), some (V.ref p), some (V.ref kn), some (V.ref lp), some (V.ref lc), some (V.ref ls), some (V.int (0 + (i : Nat))), some (V.int (k : Nat)), some (V.ref lk), some (V.int x), x10] ∧ Inv8 K H' p g l lp lc ls qs cs as ms ∧
          H' lk = some (.lst (js.map natV)) ∧ H' lw = some (.lst (ws.map V.int))) (fun σ' H' h => ?_) (fun rest => ?_)
        · obtain ⟨rfl, I, hlk, hlw⟩ := h
          refine go_ifS ?_
          walk_at "ex"
          refine go_ite (fun h => ?_) (fun h => ?_)
          · walk_at "ex"
            refine gc I ?_
            walk_at "ex"
            refine gq I ?_
            walk_at "ex"
            refine gs I ?_
            walk_at "ex"
            obtain ⟨C, dx, fs, hC⟩ := (gl I).at_
            refine ⟨c1, q1, m.1, m.2.1, a1, lk, [p, g], m.2.2, js, rfl, gl I, I.ex, (gd I).1, (ga I).at_, okm, hlk, bound, fun H4 k4 L4 => ?_⟩
            walk_at "ex"
            refine go_next ⟨_, _, rfl, I.agree ec em (gl I) k4 L4, keep_ins k4 hC hlk (by simp), keep_ins k4 hC hlw (by simp)⟩
          · walk_at "ex"
            exact go_next ⟨_, _, rfl, I, hlk, hlw⟩
        · refine go_ifS ?_
          walk_at "ex"
          refine go_ite (fun h => ?_) (fun h => ?_)
          · walk_at "ex"
            refine gc I ?_
            walk_at "ex"
            refine gs I ?_
            walk_at "ex"
            obtain ⟨C, dx, fs, hC⟩ := (gl I).at_
            refine ⟨c1, a1, [p, g], m.2.2, rfl, gl I, I.ex, (ga I).at_, okm, fun H4 k4 L4 => ?_⟩
            walk_at "ex"
            exact go_next (rest _ _ ⟨rfl, I.agree ec em (gl I) k4 L4, keep_ins k4 hC hlk (by simp), keep_ins k4 hC hlw (by simp)⟩)
          · walk_at "ex"
            exact go_next (rest _ _ ⟨rfl, I, hlk, hlw⟩)
      · obtain ⟨x9, x10, rfl, I, hlk, hlw⟩ := p
        obtain ⟨lr, lh, kl, CA, _⟩ := gl I
        obtain ⟨C, dx, cc, nc, hC⟩ := CA.at_
        have dq := (gd I).1
        dsimp only
        refine go_ifS ?_
        walk_at "ex"
        refine gc I ?_
        refine ⟨c1, C, dx, _, _, rfl, hC, cc, nc.2.2.2.1, rfl, ?_⟩
        walk_at "ex"
        refine gc I ?_
        refine ⟨c1, C, dx, _, _, rfl, hC, cc, nc.2.2.2.2.1, rfl, ?_⟩
        walk_at "ex"
        rename_i m1 v1
        have I1 := I.keep (Keep.new (o := .lst [.ref lr, .ref lh]) v1)
        refine gq I1 ?_
        walk_at "ex"
        refine go_ixL (sqL_upd (sqL dq.at_) v1) rfl ?_
        walk_at "ex"
        refine gq I1 ?_
        walk_at "ex"
        refine go_ixL (sqL_upd (sqL dq.at_) v1) rfl ?_
        walk_at "ex"
        rename_i m2 v2
        generalize hH5 : upd (upd _ m1 _) m2 _ = H5
        have k5 : Keep [] H' H5 := by subst hH5; walk_at "keep"
        have y1 : H5 m1 = some (.lst [.ref lr, .ref lh]) := by subst hH5; walk_at "look"
        have y2 : H5 m2 = some (.lst [.ref m.1, .ref m.2.1]) := by subst hH5; exact upd_same
        have CA5 := CA.keep k5
        have dq5 := dq.keep0 k5
        have z1 := agreeD okm CA5.rows CA5.hs y1
        have z2 := agreeD okm dq5.rows dq5.hs y2
        refine ⟨_, _, _, rfl, z1.1, z2.1, z1.2.1, z1.2.2, fun H6 k6 => ?_⟩
        walk_at "ex"
        exact go_next ⟨_, _, _, _, _, rfl, (I.keep k5).keep k6⟩
    · refine go_ifS ?_
      walk_at "ex"
      refine go_ite (fun h => ?_) (fun h => ?_)
      · refine go_asgN ?_
        walk_at "ex"
        refine gs I1 ?_
        walk_at "ex"
        refine glen I1 ?_
        refine ⟨p, g, l, _, rfl, I1.box, by omega, by omega, fun r H2 r0 r1 k2 B2 => ?_⟩
        have I2 := I1.draw k2 B2
        walk_at "ex"
        rename_i lk2 nlk2
        refine rest _ _ ⟨lk2, [r.toNat], x9, x10, rfl, I2.keep (Keep.new nlk2), ?_, I2.box.off nlk2, fun x hx => ?_⟩
        · rw [upd_same]
          have z : ((r.toNat : Nat) : Int) = r := by omega
          show _ = some (HO.lst [V.int ((r.toNat : Nat) : Int)])
          rw [z]
        · simp at hx; omega
      · exact go_next (rest _ _ ⟨lk, js, x9, x10, rfl, I1, hlk, olk, bound⟩)
  · obtain ⟨_, _, _, _, _, rfl, _⟩ := p
    walk_at "go"
    exact q _
theorem law_start (K : PySem.W.Frag) (H : Hp) (a : Addr) (ns : List Int) (hl : ns.length ≤ 63) (hO : Only H) (hS : SqL K H a (ns.map V.int)) : sp_law K [.ref a] H (fun v _ => v = .bl true) fun _ _ _ => False :=
  ⟨a, ns, rfl, hS, hl, fun _ => rfl⟩
end LW
end
section
namespace LW
open PySem PySem.Spec PyProof.Rows L2 Rf
section
variable {P : Program} {w : World} {K : PySem.W.Frag} {mg : Str → Option Value} {base : Heap} {A : Adr}
theorem wk_handler_at (T : Txt K w mg A)
    (len : ∀ vs H Q E, sp_handler_at K vs H Q E → vs.length = 2) (rd : ∀ vs H Q E, sp_handler_at K vs H Q E → t_handler_at K w A { nx := fun _ H' => Q .non H', rt := Q } (start n_handler_at vs) H) :
    FnOk P w K mg base CX0 1 A.a_handler_at A.d_handler_at ["code", "pc"] (sp_handler_at K) := by
  refine T.F_handler_at.ok sc_handler_at len (fun cdv Ar outer s H vs Q E hr h => ⟨t_handler_at K w A, ?_, rd vs H Q E h⟩)
  exact (pss_cons (ps_for PassesOwn.never rfl (pi_list (pe_fld (pv 0) rfl)) (pg_name (i := 2) sc_handler_at.nd rfl (Or.inl rfl))
 (pss_one (ps_if (pt_chain op_le op_lt (pe_ix ix_tup (pv 2) pe_int (fun _ _ => rfl)) (pv 1) (pe_ix ix_tup (pv 2) pe_int (fun _ _ => rfl)))
 (pss_one (ps_ret (pv 2)))
 pss_nil)))
 (pss_one (ps_ret pe_non)))
theorem wk_slots_read (T : Txt K w mg A)
    (len : ∀ vs H Q E, sp_slots_read K vs H Q E → vs.length = 1) (rd : ∀ vs H Q E, sp_slots_read K vs H Q E → t_slots_read K w A { nx := fun _ H' => Q .non H', rt := Q } (start n_slots_read vs) H) :
    FnOk P w K mg base CX0 1 A.a_slots_read A.d_slots_read ["row"] (sp_slots_read K) := by
  refine T.F_slots_read.ok sc_slots_read len (fun cdv Ar outer s H vs Q E hr h => ⟨t_slots_read K w A, ?_, rd vs H Q E h⟩)
  exact (pss_cons (ps_setLc (i := 1) (own := [("index", 2)]) (g := (gName 2)) (tt := tYes) rfl sc_slots_read.nd rfl rfl (sw_true rfl rfl rfl (by decide +kernel)) (pi_tup (pe_ix ix_W (pe_glob rfl T.g_READS rfl) (pe_ix ix_tup (pv 0) pe_int (fun _ _ => rfl)) (fun _ _ => rfl))) (blkOk_by (own := [("index", 2)]) (N := n_slots_read) (sc := defScope s_slots_read) (by decide +kernel)) (fun _ _ _ _ _ => (pg_name (i := 2) sc_slots_read.nd rfl (Or.inl rfl))) (fun _ _ _ _ _ => pts_nil) (fun _ _ _ _ _ => (pe_ix ix_tup (pv 0) (pv 2) (fun _ _ => rfl))))
 (pss_cons (ps_if (pt_cmpR op_inW (pe_ix ix_tup (pv 0) pe_int (fun _ _ => rfl)) (pe_glob rfl T.g_LISTS rfl) rfl)
 (pss_one (ps_expr (pe_bm PySem.F.plainAttrs_list PySem.F.slot_list_extend PySem.F.type_list_extend mt_extT (pv 1) (pa_cons (pe_ix ix_tup (pv 0) (pe_ix ix_W (pe_glob rfl T.g_LISTS rfl) (pe_ix ix_tup (pv 0) pe_int (fun _ _ => rfl)) (fun _ _ => rfl)) (fun _ _ => rfl)) pa_nil))))
 pss_nil)
 (pss_one (ps_ret (pv 1)))))
theorem wk_target (T : Txt K w mg A)
    (len : ∀ vs H Q E, sp_target K vs H Q E → vs.length = 1) (rd : ∀ vs H Q E, sp_target K vs H Q E → t_target K w A { nx := fun _ H' => Q .non H', rt := Q } (start n_target vs) H) :
    FnOk P w K mg base CX0 1 A.a_target A.d_target ["row"] (sp_target K) := by
  refine T.F_target.ok sc_target len (fun cdv Ar outer s H vs Q E hr h => ⟨t_target K w A, ?_, rd vs H Q E h⟩)
  exact (pss_cons (ps_set (i := 1) sc_target.nd rfl (Or.inl rfl) (pe_getW (pe_glob rfl T.g_WRITES rfl) (pe_ix ix_tup (pv 0) pe_int (fun _ _ => rfl)) ⟨rfl, rfl, rfl, rfl⟩))
 (pss_cons (ps_if (pt_cmpR op_isN (pv 1) pe_non (nomark _))
 (pss_one (ps_ret pe_non))
 pss_nil)
 (pss_one (ps_ret (pe_ix ix_tup (pv 0) (pv 1) (fun _ _ => rfl))))))
theorem wk_following (T : Txt K w mg A)
    (len : ∀ vs H Q E, sp_following K vs H Q E → vs.length = 2) (rd : ∀ vs H Q E, sp_following K vs H Q E → t_following K w A { nx := fun _ H' => Q .non H', rt := Q } (start n_following vs) H) :
    FnOk P w K mg base CX0 1 A.a_following A.d_following ["code", "pc"] (sp_following K) := by
  refine okC T.F_following sc_following len (fun cdv Ar outer s H vs Q E hcd hr h => ⟨t_following K w A, ?_, rd vs H Q E h⟩)
  exact (pss_cons (ps_set (i := 2) sc_following.nd rfl (Or.inl rfl) (pe_ix ix_list (pe_fld (pv 0) rfl) (pv 1) (fun _ _ => rfl)))
 (pss_cons (ps_if (pt_cmpR op_in_seq (pe_ix ix_tup (pv 2) pe_int (fun _ _ => rfl)) (pe_tup (pa_cons pe_str (pa_cons pe_str pa_nil))) rfl)
 (pss_one (ps_ret (pe_lst pa_nil)))
 pss_nil)
 (pss_cons (ps_if (pt_cmpR op_eq (pe_ix ix_tup (pv 2) pe_int (fun _ _ => rfl)) pe_str (nomark _))
 (pss_one (ps_ret (pe_lst (pa_cons (pe_ix ix_tup (pv 2) pe_int (fun _ _ => rfl)) pa_nil))))
 pss_nil)
 (pss_cons (ps_if (pt_cmpR op_eq (pe_ix ix_tup (pv 2) pe_int (fun _ _ => rfl)) pe_str (nomark _))
 (pss_one (ps_ret (pe_callB (cr_sortedSet rfl) (by rfl) T.n_sorted (by decide +kernel) (pa_cons (pe_setI2 (pe_op op_add (pv 1) pe_int) (pe_ix ix_tup (pv 2) pe_int (fun _ _ => rfl)) hcd) pa_nil))))
 pss_nil)
 (pss_one (ps_ret (pe_lst (pa_cons (pe_op op_add (pv 1) pe_int) pa_nil))))))))
theorem wk_live (T : Txt K w mg A)
    (G_live_masks : FnOk P w K mg base CX0 4 A.a_live_masks A.d_live_masks ["code"] (sp_live_masks K))
    (G_slots_in : FnOk P w K mg base CX0 1 A.a_slots_in A.d_slots_in ["mask"] (sp_slots_in K))
    (len : ∀ vs H Q E, sp_live K vs H Q E → vs.length = 1) (rd : ∀ vs H Q E, sp_live K vs H Q E → t_live K w A { nx := fun _ H' => Q .non H', rt := Q } (start n_live vs) H) :
    FnOk P w K mg base CX0 5 A.a_live A.d_live ["code"] (sp_live K) := by
  refine T.F_live.ok sc_live len (fun cdv Ar outer s H vs Q E hr h => ⟨t_live K w A, ?_, rd vs H Q E h⟩)
  exact (pss_one (ps_ret (pe_lc (own := [("mask", 1)]) (g := (gName 1)) (tt := tYes) rfl sc_live.nd (pi_list (pe_call G_live_masks (hr.mono (by decide)) rfl T.g_live_masks T.F_live_masks.kp T.b_live_masks .nil pass0 (pa_cons (pv 0) pa_nil))) (blkOk_by (own := [("mask", 1)]) (N := n_live) (sc := defScope s_live) (by decide +kernel)) (fun _ _ _ _ _ => (pg_name (i := 1) sc_live.nd rfl (Or.inl rfl))) (fun _ _ _ _ _ => pts_nil) (fun _ _ _ _ _ => (pe_call G_slots_in (hr.mono (by decide)) rfl T.g_slots_in T.F_slots_in.kp T.b_slots_in .nil pass0 (pa_cons (pv 1) pa_nil))))))
theorem wk_waiting (T : Txt K w mg A)
    (G_slots_in : FnOk P w K mg base CX0 1 A.a_slots_in A.d_slots_in ["mask"] (sp_slots_in K))
    (G_waiting_mask : FnOk P w K mg base CX0 2 A.a_waiting_mask A.d_waiting_mask ["code", "masks", "pc"] (sp_waiting_mask K))
    (G_live_masks : FnOk P w K mg base CX0 4 A.a_live_masks A.d_live_masks ["code"] (sp_live_masks K))
    (len : ∀ vs H Q E, sp_waiting K vs H Q E → vs.length = 2) (rd : ∀ vs H Q E, sp_waiting K vs H Q E → t_waiting K w A { nx := fun _ H' => Q .non H', rt := Q } (start n_waiting vs) H) :
    FnOk P w K mg base CX0 5 A.a_waiting A.d_waiting ["code", "pc"] (sp_waiting K) := by
  refine T.F_waiting.ok sc_waiting len (fun cdv Ar outer s H vs Q E hr h => ⟨t_waiting K w A, ?_, rd vs H Q E h⟩)
  exact (pss_one (ps_ret (pe_call G_slots_in (hr.mono (by decide)) rfl T.g_slots_in T.F_slots_in.kp T.b_slots_in .nil pass0 (pa_cons (pe_call G_waiting_mask (hr.mono (by decide)) rfl T.g_waiting_mask T.F_waiting_mask.kp T.b_waiting_mask .nil pass0 (pa_cons (pv 0) (pa_cons (pe_call G_live_masks (hr.mono (by decide)) rfl T.g_live_masks T.F_live_masks.kp T.b_live_masks .nil pass0 (pa_cons (pv 0) pa_nil)) (pa_cons (pv 1) pa_nil)))) pa_nil))))
theorem wk_slots_in (T : Txt K w mg A)
    (len : ∀ vs H Q E, sp_slots_in K vs H Q E → vs.length = 1) (rd : ∀ vs H Q E, sp_slots_in K vs H Q E → t_slots_in K w A { nx := fun _ H' => Q .non H', rt := Q } (start n_slots_in vs) H) :
    FnOk P w K mg base CX0 1 A.a_slots_in A.d_slots_in ["mask"] (sp_slots_in K) := by
  refine T.F_slots_in.ok sc_slots_in len (fun cdv Ar outer s H vs Q E hr h => ⟨t_slots_in K w A, ?_, rd vs H Q E h⟩)
  exact (pss_one (ps_ret (pe_lc (own := [("slot", 1)]) (g := (gName 1)) (tt := (tTest (tOp rEq (tOp rAndI (tOp rShrI (tVar 0) (tVar 1)) (tC (.int 1))) (tC (.int 1))))) rfl sc_slots_in.nd (pi_range1 rfl T.n_range (pa_cons (pe_bits (pv 0)) pa_nil)) (blkOk_by (own := [("slot", 1)]) (N := n_slots_in) (sc := defScope s_slots_in) (by decide +kernel)) (fun _ _ _ _ _ => (pg_name (i := 1) sc_slots_in.nd rfl (Or.inl rfl))) (fun _ _ _ _ _ => pts_one (pt_cmpR op_eq (pe_op op_and (pe_op op_shr (pv 0) (pv 1)) pe_int) pe_int (nomark _))) (fun _ _ _ _ _ => (pv 1)))))
theorem wk_mask_of (T : Txt K w mg A)
    (len : ∀ vs H Q E, sp_mask_of K vs H Q E → vs.length = 1) (rd : ∀ vs H Q E, sp_mask_of K vs H Q E → t_mask_of K w A { nx := fun _ H' => Q .non H', rt := Q } (start n_mask_of vs) H) :
    FnOk P w K mg base CX0 1 A.a_mask_of A.d_mask_of ["slots"] (sp_mask_of K) := by
  refine T.F_mask_of.ok sc_mask_of len (fun cdv Ar outer s H vs Q E hr h => ⟨t_mask_of K w A, ?_, rd vs H Q E h⟩)
  exact (pss_cons (ps_set (i := 1) sc_mask_of.nd rfl (Or.inl rfl) pe_int)
 (pss_cons (ps_for PassesOwn.never rfl (pi_list (pv 0)) (pg_name (i := 2) sc_mask_of.nd rfl (Or.inl rfl))
 (pss_one (ps_set (i := 1) sc_mask_of.nd rfl (Or.inl rfl) (pe_op op_or (pv 1) (pe_op op_shl pe_int (pv 2))))))
 (pss_one (ps_ret (pv 1)))))
theorem wk_without_slot (T : Txt K w mg A)
    (len : ∀ vs H Q E, sp_without_slot K vs H Q E → vs.length = 2) (rd : ∀ vs H Q E, sp_without_slot K vs H Q E → t_without_slot K w A { nx := fun _ H' => Q .non H', rt := Q } (start n_without_slot vs) H) :
    FnOk P w K mg base CX0 1 A.a_without_slot A.d_without_slot ["mask", "slot"] (sp_without_slot K) := by
  refine T.F_without_slot.ok sc_without_slot len (fun cdv Ar outer s H vs Q E hr h => ⟨t_without_slot K w A, ?_, rd vs H Q E h⟩)
  exact (pss_one (ps_ret (pe_op op_sub (pv 0) (pe_op op_and (pv 0) (pe_op op_shl pe_int (pv 1))))))
theorem wk_live_masks (T : Txt K w mg A)
    (G_solved_masks : FnOk P w K mg base CX0 3 A.a_solved_masks A.d_solved_masks ["code"] (sp_solved_masks K))
    (len : ∀ vs H Q E, sp_live_masks K vs H Q E → vs.length = 1) (rd : ∀ vs H Q E, sp_live_masks K vs H Q E → t_live_masks K w A { nx := fun _ H' => Q .non H', rt := Q } (start n_live_masks vs) H) :
    FnOk P w K mg base CX0 4 A.a_live_masks A.d_live_masks ["code"] (sp_live_masks K) := by
  refine T.F_live_masks.ok sc_live_masks len (fun cdv Ar outer s H vs Q E hr h => ⟨t_live_masks K w A, ?_, rd vs H Q E h⟩)
  exact (pss_cons (ps_set (i := 1) sc_live_masks.nd rfl (Or.inl rfl) (pe_fld (pv 0) rfl))
 (pss_cons (ps_if (PW.pt (pw_and (pt_cmpR op_notN (pv 1) pe_non (nomark _)) (pw_and (pt_cmpR (op_eqD hr.units) (pe_ix ix_tup (pv 1) pe_int (fun _ _ => rfl)) (pe_fld (pv 0) rfl) (nomark _)) (pw_and1 (pt_cmpR (op_eqD hr.units) (pe_ix ix_tup (pv 1) pe_int (fun _ _ => rfl)) (pe_fld (pv 0) rfl) (nomark _))))))
 (pss_one (ps_ret (pe_ix ix_tup (pv 1) pe_int (fun _ _ => rfl))))
 pss_nil)
 (pss_cons (ps_set (i := 2) sc_live_masks.nd rfl (Or.inl rfl) (pe_call G_solved_masks (hr.mono (by decide)) rfl T.g_solved_masks T.F_solved_masks.kp T.b_solved_masks .nil pass0 (pa_cons (pv 0) pa_nil)))
 (pss_cons (ps_fld (pv 0) (pe_tup (pa_cons (pe_callTy call_list_of (by rfl) T.n_list (by decide +kernel) (pa_cons (pe_fld (pv 0) rfl) pa_nil)) (pa_cons (pe_callTy call_list_of (by rfl) T.n_list (by decide +kernel) (pa_cons (pe_fld (pv 0) rfl) pa_nil)) (pa_cons (pv 2) pa_nil)))) rfl)
 (pss_one (ps_ret (pv 2)))))))
theorem wk_solved_masks (T : Txt K w mg A)
    (G_mask_of : FnOk P w K mg base CX0 1 A.a_mask_of A.d_mask_of ["slots"] (sp_mask_of K))
    (G_slots_read : FnOk P w K mg base CX0 1 A.a_slots_read A.d_slots_read ["row"] (sp_slots_read K))
    (G_waiting_mask : FnOk P w K mg base CX0 2 A.a_waiting_mask A.d_waiting_mask ["code", "masks", "pc"] (sp_waiting_mask K))
    (len : ∀ vs H Q E, sp_solved_masks K vs H Q E → vs.length = 1) (rd : ∀ vs H Q E, sp_solved_masks K vs H Q E → t_solved_masks K w A { nx := fun _ H' => Q .non H', rt := Q } (start n_solved_masks vs) H) :
    FnOk P w K mg base CX0 3 A.a_solved_masks A.d_solved_masks ["code"] (sp_solved_masks K) := by
  refine T.F_solved_masks.ok sc_solved_masks len (fun cdv Ar outer s H vs Q E hr h => ⟨t_solved_masks K w A, ?_, rd vs H Q E h⟩)
  exact (pss_cons (ps_setLc (i := 1) (own := [("row", 6)]) (g := (gName 6)) (tt := tYes) rfl sc_solved_masks.nd rfl rfl (sw_true rfl rfl rfl (by decide +kernel)) (pi_list (pe_fld (pv 0) rfl)) (blkOk_by (own := [("row", 6)]) (N := n_solved_masks) (sc := defScope s_solved_masks) (by decide +kernel)) (fun _ _ _ _ _ => (pg_name (i := 6) sc_solved_masks.nd rfl (Or.inl rfl))) (fun _ _ _ _ _ => pts_nil) (fun _ _ _ _ _ => pe_int))
 (pss_cons (ps_setLc (i := 2) (own := [("row", 6)]) (g := (gName 6)) (tt := tYes) rfl sc_solved_masks.nd rfl rfl (sw_true rfl rfl rfl (by decide +kernel)) (pi_list (pe_fld (pv 0) rfl)) (blkOk_by (own := [("row", 6)]) (N := n_solved_masks) (sc := defScope s_solved_masks) (by decide +kernel)) (fun _ _ _ _ _ => (pg_name (i := 6) sc_solved_masks.nd rfl (Or.inl rfl))) (fun _ _ _ _ _ => pts_nil) (fun _ _ _ _ _ => (pe_call G_mask_of (hr.mono (by decide)) rfl T.g_mask_of T.F_mask_of.kp T.b_mask_of .nil pass0 (pa_cons (pe_call G_slots_read (hr.mono (by decide)) rfl T.g_slots_read T.F_slots_read.kp T.b_slots_read .nil pass0 (pa_cons (pv 6) pa_nil)) pa_nil))))
 (pss_cons (ps_set (i := 3) sc_solved_masks.nd rfl (Or.inl rfl) pe_bl)
 (pss_cons (ps_while PassesOwn.never (pt_val (pv 3))
 (pss_cons (ps_set (i := 3) sc_solved_masks.nd rfl (Or.inl rfl) pe_bl)
 (pss_one (ps_for PassesOwn.never rfl (pi_revR rfl T.n_reversed (prg_1 rfl T.n_range (pe_callB call_len_seq (by rfl) T.n_len (by decide +kernel) (pa_cons (pv 2) pa_nil)))) (pg_name (i := 4) sc_solved_masks.nd rfl (Or.inl rfl))
 (pss_cons (ps_set (i := 5) sc_solved_masks.nd rfl (Or.inl rfl) (pe_op op_or (pe_ix ix_list (pv 2) (pv 4) (fun _ _ => rfl)) (pe_call G_waiting_mask (hr.mono (by decide)) rfl T.g_waiting_mask T.F_waiting_mask.kp T.b_waiting_mask .nil pass0 (pa_cons (pv 0) (pa_cons (pv 1) (pa_cons (pv 4) pa_nil))))))
 (pss_one (ps_if (pt_cmpR op_ne (pv 5) (pe_ix ix_list (pv 1) (pv 4) (fun _ _ => rfl)) (nomark _))
 (pss_cons (ps_asg (pv 5) (pg_sub (pv 1) (pv 4) set_list))
 (pss_one (ps_set (i := 3) sc_solved_masks.nd rfl (Or.inl rfl) pe_bl)))
 pss_nil)))))))
 (pss_one (ps_ret (pv 1)))))))
theorem wk_waiting_mask (T : Txt K w mg A)
    (G_following : FnOk P w K mg base CX0 1 A.a_following A.d_following ["code", "pc"] (sp_following K))
    (G_target : FnOk P w K mg base CX0 1 A.a_target A.d_target ["row"] (sp_target K))
    (G_without_slot : FnOk P w K mg base CX0 1 A.a_without_slot A.d_without_slot ["mask", "slot"] (sp_without_slot K))
    (G_handler_at : FnOk P w K mg base CX0 1 A.a_handler_at A.d_handler_at ["code", "pc"] (sp_handler_at K))
    (len : ∀ vs H Q E, sp_waiting_mask K vs H Q E → vs.length = 3) (rd : ∀ vs H Q E, sp_waiting_mask K vs H Q E → t_waiting_mask K w A { nx := fun _ H' => Q .non H', rt := Q } (start n_waiting_mask vs) H) :
    FnOk P w K mg base CX0 2 A.a_waiting_mask A.d_waiting_mask ["code", "masks", "pc"] (sp_waiting_mask K) := by
  refine T.F_waiting_mask.ok sc_waiting_mask len (fun cdv Ar outer s H vs Q E hr h => ⟨t_waiting_mask K w A, ?_, rd vs H Q E h⟩)
  exact (pss_cons (ps_set (i := 3) sc_waiting_mask.nd rfl (Or.inl rfl) pe_int)
 (pss_cons (ps_for PassesOwn.never rfl (pi_list (pe_call G_following (hr.mono (by decide)) rfl T.g_following T.F_following.kp T.b_following .nil pass0 (pa_cons (pv 0) (pa_cons (pv 2) pa_nil)))) (pg_name (i := 4) sc_waiting_mask.nd rfl (Or.inl rfl))
 (pss_one (ps_if (pt_cmpR op_lt (pv 4) (pe_callB call_len_seq (by rfl) T.n_len (by decide +kernel) (pa_cons (pv 1) pa_nil)) (nomark _))
 (pss_one (ps_set (i := 3) sc_waiting_mask.nd rfl (Or.inl rfl) (pe_op op_or (pv 3) (pe_ix ix_list (pv 1) (pv 4) (fun _ _ => rfl)))))
 pss_nil)))
 (pss_cons (ps_set (i := 5) sc_waiting_mask.nd rfl (Or.inl rfl) (pe_call G_target (hr.mono (by decide)) rfl T.g_target T.F_target.kp T.b_target .nil pass0 (pa_cons (pe_ix ix_list (pe_fld (pv 0) rfl) (pv 2) (fun _ _ => rfl)) pa_nil)))
 (pss_cons (ps_if (pt_cmpR op_notN (pv 5) pe_non (nomark _))
 (pss_one (ps_set (i := 3) sc_waiting_mask.nd rfl (Or.inl rfl) (pe_call G_without_slot (hr.mono (by decide)) rfl T.g_without_slot T.F_without_slot.kp T.b_without_slot .nil pass0 (pa_cons (pv 3) (pa_cons (pv 5) pa_nil)))))
 pss_nil)
 (pss_cons (ps_set (i := 6) sc_waiting_mask.nd rfl (Or.inl rfl) (pe_call G_handler_at (hr.mono (by decide)) rfl T.g_handler_at T.F_handler_at.kp T.b_handler_at .nil pass0 (pa_cons (pv 0) (pa_cons (pv 2) pa_nil))))
 (pss_cons (ps_if (PW.pt (pw_and (pt_cmpR op_notN (pv 6) pe_non (nomark _)) (pw_and1 (pt_cmpR op_lt (pe_ix ix_tup (pv 6) pe_int (fun _ _ => rfl)) (pe_callB call_len_seq (by rfl) T.n_len (by decide +kernel) (pa_cons (pv 1) pa_nil)) (nomark _)))))
 (pss_one (ps_set (i := 3) sc_waiting_mask.nd rfl (Or.inl rfl) (pe_op op_or (pv 3) (pe_call G_without_slot (hr.mono (by decide)) rfl T.g_without_slot T.F_without_slot.kp T.b_without_slot .nil pass0 (pa_cons (pe_ix ix_list (pv 1) (pe_ix ix_tup (pv 6) pe_int (fun _ _ => rfl)) (fun _ _ => rfl)) (pa_cons (pe_ix ix_tup (pv 6) pe_int (fun _ _ => rfl)) pa_nil))))))
 pss_nil)
 (pss_one (ps_ret (pv 3)))))))))
theorem wk_Code_init (T : Txt K w mg A)
    (len : ∀ vs H Q E, sp_Code_init K vs H Q E → vs.length = 6) (rd : ∀ vs H Q E, sp_Code_init K vs H Q E → t_Code_init K w A { nx := fun _ H' => Q .non H', rt := Q } (start n_Code_init vs) H) :
    FnOk P w K mg base CX0 1 A.a_Code_init A.d_Code_init ["self", "name", "params", "size", "rows", "handlers"] (sp_Code_init K) := by
  refine T.F_Code_init.ok sc_Code_init len (fun cdv Ar outer s H vs Q E hr h => ⟨t_Code_init K w A, ?_, rd vs H Q E h⟩)
  exact (pss_cons (ps_fld (pv 0) (pv 1) rfl)
 (pss_cons (ps_fld (pv 0) (pv 2) rfl)
 (pss_cons (ps_fld (pv 0) (pv 3) rfl)
 (pss_cons (ps_fld (pv 0) (pe_callTy call_list_of (by rfl) T.n_list (by decide +kernel) (pa_cons (pv 4) pa_nil)) rfl)
 (pss_cons (ps_fld (pv 0) (pe_callTy call_list_of (by rfl) T.n_list (by decide +kernel) (pa_cons (pv 5) pa_nil)) rfl)
 (pss_one (ps_fld (pv 0) pe_non rfl)))))))
theorem wk_law_box (T : Txt K w mg A)
    (len : ∀ vs H Q E, sp_law_box K vs H Q E → vs.length = 1) (rd : ∀ vs H Q E, sp_law_box K vs H Q E → t_law_box K w A { nx := fun _ H' => Q .non H', rt := Q } (start n_law_box vs) H) :
    FnOk P w K mg base CX0 1 A.a_law_box A.d_law_box ["script"] (sp_law_box K) := by
  refine T.F_law_box.ok sc_law_box len (fun cdv Ar outer s H vs Q E hr h => ⟨t_law_box K w A, ?_, rd vs H Q E h⟩)
  exact (pss_cons (ps_setLc (i := 1) (own := [("cell", 3)]) (g := (gName 3)) (tt := tYes) rfl sc_law_box.nd rfl rfl (sw_true rfl rfl rfl (by decide +kernel)) (pi_list (pe_slice sl_list (pv 0) po_none (po_some pe_int))) (blkOk_by (own := [("cell", 3)]) (N := n_law_box) (sc := defScope s_law_box) (by decide +kernel)) (fun _ _ _ _ _ => (pg_name (i := 3) sc_law_box.nd rfl (Or.inl rfl))) (fun _ _ _ _ _ => pts_nil) (fun _ _ _ _ _ => (pe_callTy call_int1 (by rfl) T.n_int (by decide +kernel) (pa_cons (pv 3) pa_nil))))
 (pss_cons (ps_setLc (i := 2) (own := [("cell", 3)]) (g := (gName 3)) (tt := (tTest (tOp rLtI (tVar 3) (tOp rPowI (tC (.int 10)) (tC (.int 18)))))) rfl sc_law_box.nd rfl rfl (sw_true rfl rfl rfl (by decide +kernel)) (pi_list (pv 1)) (blkOk_by (own := [("cell", 3)]) (N := n_law_box) (sc := defScope s_law_box) (by decide +kernel)) (fun _ _ _ _ _ => (pg_name (i := 3) sc_law_box.nd rfl (Or.inl rfl))) (fun _ _ _ _ _ => pts_one (pt_cmpR op_lt (pv 3) (pe_op op_pow pe_int pe_int) (nomark _))) (fun _ _ _ _ _ => (pe_op op_mod (pe_callTy call_int1 (by rfl) T.n_int (by decide +kernel) (pa_cons (pv 3) pa_nil)) pe_int)))
 (pss_one (ps_ret (pe_lst (pa_cons (pe_lc (own := [("cell", 3)]) (g := (gName 3)) (tt := (tTest (tOp rGeI (tVar 3) (tOp rPowI (tC (.int 10)) (tC (.int 18)))))) rfl sc_law_box.nd (pi_list (pv 1)) (blkOk_by (own := [("cell", 3)]) (N := n_law_box) (sc := defScope s_law_box) (by decide +kernel)) (fun _ _ _ _ _ => (pg_name (i := 3) sc_law_box.nd rfl (Or.inl rfl))) (fun _ _ _ _ _ => pts_one (pt_cmpR op_ge (pv 3) (pe_op op_pow pe_int pe_int) (nomark _))) (fun _ _ _ _ _ => (pv 3))) (pa_cons (pe_op op_cat (pe_lst (pa_cons (pe_op op_add (pe_callB call_len_seq (by rfl) T.n_len (by decide +kernel) (pa_cons (pv 1) pa_nil)) pe_int) pa_nil)) (pv 2)) (pa_cons pe_int (pa_cons pe_int pa_nil)))))))))
theorem wk_law_draw (T : Txt K w mg A)
    (len : ∀ vs H Q E, sp_law_draw K vs H Q E → vs.length = 2) (rd : ∀ vs H Q E, sp_law_draw K vs H Q E → t_law_draw K w A { nx := fun _ H' => Q .non H', rt := Q } (start n_law_draw vs) H) :
    FnOk P w K mg base CX0 1 A.a_law_draw A.d_law_draw ["box", "many"] (sp_law_draw K) := by
  refine T.F_law_draw.ok sc_law_draw len (fun cdv Ar outer s H vs Q E hr h => ⟨t_law_draw K w A, ?_, rd vs H Q E h⟩)
  exact (pss_cons (ps_set (i := 2) sc_law_draw.nd rfl (Or.inl rfl) (pe_ix ix_list (pv 0) pe_int (fun _ _ => rfl)))
 (pss_cons (ps_if (pt_truth (pv 2) (by intro _; rfl))
 (pss_cons (ps_set (i := 3) sc_law_draw.nd rfl (Or.inl rfl) (pe_bm PySem.F.plainAttrs_list PySem.F.slot_list_pop PySem.F.type_list_pop mt_popAt (pv 2) (pa_cons pe_int pa_nil)))
 (pss_cons (ps_if (pt_cmpR op_ge (pv 3) (pv 1) (nomark _))
 (pss_one (ps_expr (pe_bm PySem.F.plainAttrs_list PySem.F.slot_list_insert PySem.F.type_list_insert mt_insert (pv 2) (pa_cons pe_int (pa_cons (pe_op op_fdivW (pv 3) (pv 1)) pa_nil)))))
 pss_nil)
 (pss_one (ps_ret (pe_op op_mod (pe_callTy call_int1 (by rfl) T.n_int (by decide +kernel) (pa_cons (pv 3) pa_nil)) (pv 1))))))
 pss_nil)
 (pss_cons (ps_set (i := 4) sc_law_draw.nd rfl (Or.inl rfl) (pe_ix ix_list (pv 0) pe_int (fun _ _ => rfl)))
 (pss_cons (ps_asg (pe_op op_add (pe_ix ix_list (pv 0) pe_int (fun _ _ => rfl)) pe_int) (pg_sub (pv 0) pe_int set_list))
 (pss_cons (ps_set (i := 5) sc_law_draw.nd rfl (Or.inl rfl) (pe_ix ix_list (pv 4) (pe_op op_mod (pe_ix ix_list (pv 0) pe_int (fun _ _ => rfl)) (pe_callB call_len_seq (by rfl) T.n_len (by decide +kernel) (pa_cons (pv 4) pa_nil))) (fun _ _ => rfl)))
 (pss_cons (ps_asg (pe_op op_mod (pe_callTy call_int1 (by rfl) T.n_int (by decide +kernel) (pa_cons (pe_op op_add (pe_op op_add (pe_op op_mul (pe_ix ix_list (pv 0) pe_int (fun _ _ => rfl)) pe_int) (pv 5)) (pe_op op_mul (pe_ix ix_list (pv 0) pe_int (fun _ _ => rfl)) pe_int)) pa_nil)) pe_int) (pg_sub (pv 0) pe_int set_list))
 (pss_one (ps_ret (pe_op op_mod (pe_op op_mod (pe_callTy call_int1 (by rfl) T.n_int (by decide +kernel) (pa_cons (pe_op op_add (pe_op op_mul (pe_op op_fdiv (pe_ix ix_list (pv 0) pe_int (fun _ _ => rfl)) pe_int) pe_int) (pe_ix ix_list (pv 0) pe_int (fun _ _ => rfl))) pa_nil)) pe_int) (pv 1))))))))))
theorem wk_law_reserved (T : Txt K w mg A)
    (len : ∀ vs H Q E, sp_law_reserved K vs H Q E → vs.length = 0) (rd : ∀ vs H Q E, sp_law_reserved K vs H Q E → t_law_reserved K w A { nx := fun _ H' => Q .non H', rt := Q } (start n_law_reserved vs) H) :
    FnOk P w K mg base CX0 1 A.a_law_reserved A.d_law_reserved [] (sp_law_reserved K) := by
  refine T.F_law_reserved.ok sc_law_reserved len (fun cdv Ar outer s H vs Q E hr h => ⟨t_law_reserved K w A, ?_, rd vs H Q E h⟩)
  exact (pss_cons (ps_set (i := 0) sc_law_reserved.nd rfl (Or.inl rfl) (pe_lst (pa_cons pe_str (pa_cons pe_str (pa_cons pe_str (pa_cons pe_str (pa_cons pe_str (pa_cons pe_str (pa_cons pe_str (pa_cons pe_str (pa_cons pe_str (pa_cons pe_str (pa_cons pe_str (pa_cons pe_str pa_nil))))))))))))))
 (pss_one (ps_ret (pe_op op_cat (pv 0) (pe_lst (pa_cons pe_str (pa_cons pe_str (pa_cons pe_str (pa_cons pe_str (pa_cons pe_str (pa_cons pe_str (pa_cons pe_str (pa_cons pe_str (pa_cons pe_str pa_nil))))))))))))))
theorem wk_law_word (T : Txt K w mg A)
    (G_law_draw : FnOk P w K mg base CX0 1 A.a_law_draw A.d_law_draw ["box", "many"] (sp_law_draw K))
    (G_law_reserved : FnOk P w K mg base CX0 1 A.a_law_reserved A.d_law_reserved [] (sp_law_reserved K))
    (len : ∀ vs H Q E, sp_law_word K vs H Q E → vs.length = 2) (rd : ∀ vs H Q E, sp_law_word K vs H Q E → t_law_word K w A { nx := fun _ H' => Q .non H', rt := Q } (start n_law_word vs) H) :
    FnOk P w K mg base CX0 2 A.a_law_word A.d_law_word ["box", "known"] (sp_law_word K) := by
  refine T.F_law_word.ok sc_law_word len (fun cdv Ar outer s H vs Q E hr h => ⟨t_law_word K w A, ?_, rd vs H Q E h⟩)
  exact (pss_cons (ps_set (i := 2) sc_law_word.nd rfl (Or.inr rfl) pe_str)
 (pss_cons (ps_set (i := 3) sc_law_word.nd rfl (Or.inl rfl) (pe_call G_law_draw (hr.mono (by decide)) rfl T.g_law_draw T.F_law_draw.kp T.b_law_draw .nil pass0 (pa_cons (pv 0) (pa_cons pe_int pa_nil))))
 (pss_cons (ps_if (PW.pt (pw_and (pt_truth (pv 1) (by intro _; rfl)) (pw_and1 (pt_cmpR op_lt (pv 3) pe_int (nomark _)))))
 (pss_one (ps_ret (pe_ix ix_list (pv 1) (pe_call G_law_draw (hr.mono (by decide)) rfl T.g_law_draw T.F_law_draw.kp T.b_law_draw .nil pass0 (pa_cons (pv 0) (pa_cons (pe_callB call_len_seq (by rfl) T.n_len (by decide +kernel) (pa_cons (pv 1) pa_nil)) pa_nil))) (fun _ _ => rfl))))
 pss_nil)
 (pss_cons (ps_set (i := 4) sc_law_word.nd rfl (Or.inl rfl) (pe_op op_add pe_int (pe_call G_law_draw (hr.mono (by decide)) rfl T.g_law_draw T.F_law_draw.kp T.b_law_draw .nil pass0 (pa_cons (pv 0) (pa_cons pe_int pa_nil)))))
 (pss_cons (ps_set (i := 5) sc_law_word.nd rfl (Or.inl rfl) (pe_join pe_str (pe_lc (own := [("k", 7)]) (g := (gName 7)) (tt := tYes) rfl sc_law_word.nd (pi_range1 rfl T.n_range (pa_cons (pv 4) pa_nil)) (blkOk_by (own := [("k", 7)]) (N := n_law_word) (sc := defScope s_law_word) (by decide +kernel)) (fun _ _ _ _ _ => (pg_name (i := 7) sc_law_word.nd rfl (Or.inl rfl))) (fun _ _ _ _ _ => pts_nil) (fun _ _ _ _ _ => (pe_ix ix_str (pv 2) (pe_call G_law_draw (hr.mono (by decide)) rfl T.g_law_draw T.F_law_draw.kp T.b_law_draw .nil pass0 (pa_cons (pv 0) (pa_cons pe_int pa_nil))) (fun _ _ => rfl))))))
 (pss_cons (ps_if (PW.pt (pw_and (pt_truth (pv 1) (by intro _; rfl)) (pw_and1 (pt_cmpR op_eq (pv 3) pe_int (nomark _)))))
 (pss_cons (ps_set (i := 6) sc_law_word.nd rfl (Or.inl rfl) (pe_ix ix_list (pv 1) (pe_call G_law_draw (hr.mono (by decide)) rfl T.g_law_draw T.F_law_draw.kp T.b_law_draw .nil pass0 (pa_cons (pv 0) (pa_cons (pe_callB call_len_seq (by rfl) T.n_len (by decide +kernel) (pa_cons (pv 1) pa_nil)) pa_nil))) (fun _ _ => rfl)))
 (pss_one (ps_if (pt_cmpR op_lt (pe_callB call_len_str (by rfl) T.n_len (by decide +kernel) (pa_cons (pv 6) pa_nil)) pe_int (nomark _))
 (pss_one (ps_set (i := 5) sc_law_word.nd rfl (Or.inl rfl) (pe_op op_add_str (pv 6) (pe_ix ix_str (pv 5) pe_int (fun _ _ => rfl)))))
 pss_nil)))
 pss_nil)
 (pss_cons (ps_if (pt_cmpR op_eq (pv 3) pe_int (nomark _))
 (pss_one (ps_set (i := 5) sc_law_word.nd rfl (Or.inl rfl) (pe_op op_add_str (pe_ix ix_list (pe_call0 G_law_reserved (hr.mono (by decide)) rfl T.g_law_reserved T.F_law_reserved.kp T.b_law_reserved .nil pass0) (pe_call G_law_draw (hr.mono (by decide)) rfl T.g_law_draw T.F_law_draw.kp T.b_law_draw .nil pass0 (pa_cons (pv 0) (pa_cons pe_int pa_nil))) (fun _ _ => rfl)) (pe_ix ix_str (pv 5) pe_int (fun _ _ => rfl)))))
 pss_nil)
 (pss_cons (ps_if (pt_cmpR op_in_seq (pv 5) (pe_call0 G_law_reserved (hr.mono (by decide)) rfl T.g_law_reserved T.F_law_reserved.kp T.b_law_reserved .nil pass0) rfl)
 (pss_one (ps_set (i := 5) sc_law_word.nd rfl (Or.inl rfl) (pe_op op_add_str (pv 5) pe_str)))
 pss_nil)
 (pss_cons (ps_if (PW.pt (pw_and (pt_cmpR op_lt (pe_callB call_len_seq (by rfl) T.n_len (by decide +kernel) (pa_cons (pv 1) pa_nil)) pe_int (nomark _)) (pw_and1 (pt_cmpR op_notIn_seq (pv 5) (pv 1) rfl))))
 (pss_one (ps_expr (pe_bm PySem.F.plainAttrs_list PySem.F.slot_list_append PySem.F.type_list_append mt_append (pv 1) (pa_cons (pv 5) pa_nil))))
 pss_nil)
 (pss_one (ps_ret (pv 5))))))))))))
theorem wk_law_value (T : Txt K w mg A)
    (G_law_draw : FnOk P w K mg base CX0 1 A.a_law_draw A.d_law_draw ["box", "many"] (sp_law_draw K))
    (G_law_word : FnOk P w K mg base CX0 2 A.a_law_word A.d_law_word ["box", "known"] (sp_law_word K))
    (len : ∀ vs H Q E, sp_law_value K vs H Q E → vs.length = 2) (rd : ∀ vs H Q E, sp_law_value K vs H Q E → t_law_value K w A { nx := fun _ H' => Q .non H', rt := Q } (start n_law_value vs) H) :
    FnOk P w K mg base CX0 3 A.a_law_value A.d_law_value ["box", "known"] (sp_law_value K) := by
  refine T.F_law_value.ok sc_law_value len (fun cdv Ar outer s H vs Q E hr h => ⟨t_law_value K w A, ?_, rd vs H Q E h⟩)
  exact (pss_cons (ps_set (i := 2) sc_law_value.nd rfl (Or.inl rfl) (pe_call G_law_draw (hr.mono (by decide)) rfl T.g_law_draw T.F_law_draw.kp T.b_law_draw .nil pass0 (pa_cons (pv 0) (pa_cons pe_int pa_nil))))
 (pss_cons (ps_if (pt_cmpR op_eq (pv 2) pe_int (nomark _))
 (pss_one (ps_ret pe_non))
 pss_nil)
 (pss_cons (ps_if (pt_cmpR op_eq (pv 2) pe_int (nomark _))
 (pss_one (ps_ret (pe_tup (pa_cons pe_str (pa_cons (pe_call G_law_word (hr.mono (by decide)) rfl T.g_law_word T.F_law_word.kp T.b_law_word .nil pass0 (pa_cons (pv 0) (pa_cons (pv 1) pa_nil))) pa_nil)))))
 pss_nil)
 (pss_cons (ps_if (pt_cmpR op_eq (pv 2) pe_int (nomark _))
 (pss_one (ps_ret (pe_ix ix_list (pe_lst (pa_cons pe_str (pa_cons pe_str (pa_cons pe_str (pa_cons (pe_op op_mulS pe_str pe_int) pa_nil))))) (pe_call G_law_draw (hr.mono (by decide)) rfl T.g_law_draw T.F_law_draw.kp T.b_law_draw .nil pass0 (pa_cons (pv 0) (pa_cons pe_int pa_nil))) (fun _ _ => rfl))))
 pss_nil)
 (pss_one (ps_ret (pe_call G_law_draw (hr.mono (by decide)) rfl T.g_law_draw T.F_law_draw.kp T.b_law_draw .nil pass0 (pa_cons (pv 0) (pa_cons (pe_op op_pow pe_int pe_int) pa_nil)))))))))
theorem wk_law_row (T : Txt K w mg A)
    (G_law_draw : FnOk P w K mg base CX0 1 A.a_law_draw A.d_law_draw ["box", "many"] (sp_law_draw K))
    (G_law_word : FnOk P w K mg base CX0 2 A.a_law_word A.d_law_word ["box", "known"] (sp_law_word K))
    (G_law_value : FnOk P w K mg base CX0 3 A.a_law_value A.d_law_value ["box", "known"] (sp_law_value K))
    (len : ∀ vs H Q E, sp_law_row K vs H Q E → vs.length = 5) (rd : ∀ vs H Q E, sp_law_row K vs H Q E → t_law_row K w A { nx := fun _ H' => Q .non H', rt := Q } (start n_law_row vs) H) :
    FnOk P w K mg base CX0 4 A.a_law_row A.d_law_row ["box", "word", "many", "size", "known"] (sp_law_row K) := by
  refine T.F_law_row.ok sc_law_row len (fun cdv Ar outer s H vs Q E hr h => ⟨t_law_row K w A, ?_, rd vs H Q E h⟩)
  exact (pss_cons (ps_set (i := 5) sc_law_row.nd rfl (Or.inl rfl) (pe_call G_law_draw (hr.mono (by decide)) rfl T.g_law_draw T.F_law_draw.kp T.b_law_draw .nil pass0 (pa_cons (pv 0) (pa_cons (pv 3) pa_nil))))
 (pss_cons (ps_set (i := 6) sc_law_row.nd rfl (Or.inl rfl) (pe_call G_law_draw (hr.mono (by decide)) rfl T.g_law_draw T.F_law_draw.kp T.b_law_draw .nil pass0 (pa_cons (pv 0) (pa_cons (pv 3) pa_nil))))
 (pss_cons (ps_set (i := 7) sc_law_row.nd rfl (Or.inl rfl) (pe_call G_law_draw (hr.mono (by decide)) rfl T.g_law_draw T.F_law_draw.kp T.b_law_draw .nil pass0 (pa_cons (pv 0) (pa_cons (pv 3) pa_nil))))
 (pss_cons (ps_set (i := 8) sc_law_row.nd rfl (Or.inl rfl) (pe_call G_law_word (hr.mono (by decide)) rfl T.g_law_word T.F_law_word.kp T.b_law_word .nil pass0 (pa_cons (pv 0) (pa_cons (pv 4) pa_nil))))
 (pss_cons (ps_set (i := 9) sc_law_row.nd rfl (Or.inl rfl) (pe_callTy call_tuple_of (by rfl) T.n_tuple (by decide +kernel) (pa_cons (pe_lc (own := [("k", 11)]) (g := (gName 11)) (tt := tYes) rfl sc_law_row.nd (pi_range1 rfl T.n_range (pa_cons (pe_ix ix_list (pe_lst (pa_cons pe_int (pa_cons pe_int (pa_cons pe_int (pa_cons pe_int (pa_cons pe_int pa_nil)))))) (pe_call G_law_draw (hr.mono (by decide)) rfl T.g_law_draw T.F_law_draw.kp T.b_law_draw .nil pass0 (pa_cons (pv 0) (pa_cons pe_int pa_nil))) (fun _ _ => rfl)) pa_nil)) (blkOk_by (own := [("k", 11)]) (N := n_law_row) (sc := defScope s_law_row) (by decide +kernel)) (fun _ _ _ _ _ => (pg_name (i := 11) sc_law_row.nd rfl (Or.inl rfl))) (fun _ _ _ _ _ => pts_nil) (fun _ _ _ _ _ => (pe_call G_law_draw (hr.mono (by decide)) rfl T.g_law_draw T.F_law_draw.kp T.b_law_draw .nil pass0 (pa_cons (pv 0) (pa_cons (pv 3) pa_nil))))) pa_nil)))
 (pss_cons (ps_if (pt_cmpR op_eq (pv 1) pe_str (nomark _))
 (pss_one (ps_ret (pe_tup (pa_cons pe_str (pa_cons (pv 5) (pa_cons (pe_call G_law_value (hr.mono (by decide)) rfl T.g_law_value T.F_law_value.kp T.b_law_value .nil pass0 (pa_cons (pv 0) (pa_cons (pv 4) pa_nil))) pa_nil))))))
 pss_nil)
 (pss_cons (ps_if (pt_cmpR op_in_seq (pv 1) (pe_lst (pa_cons pe_str (pa_cons pe_str (pa_cons pe_str (pa_cons pe_str pa_nil))))) rfl)
 (pss_one (ps_ret (pe_tup (pa_cons (pv 1) (pa_cons (pv 5) (pa_cons (pv 6) pa_nil))))))
 pss_nil)
 (pss_cons (ps_if (pt_cmpR op_eq (pv 1) pe_str (nomark _))
 (pss_cons (ps_set (i := 10) sc_law_row.nd rfl (Or.inl rfl) (pe_lst (pa_cons pe_str (pa_cons pe_str (pa_cons pe_str (pa_cons pe_str (pa_cons pe_str (pa_cons pe_str (pa_cons pe_str (pa_cons pe_str pa_nil))))))))))
 (pss_one (ps_ret (pe_tup (pa_cons pe_str (pa_cons (pe_ix ix_list (pv 10) (pe_call G_law_draw (hr.mono (by decide)) rfl T.g_law_draw T.F_law_draw.kp T.b_law_draw .nil pass0 (pa_cons (pv 0) (pa_cons pe_int pa_nil))) (fun _ _ => rfl)) (pa_cons (pv 5) (pa_cons (pv 6) (pa_cons (pv 7) pa_nil)))))))))
 pss_nil)
 (pss_cons (ps_if (pt_cmpR op_eq (pv 1) pe_str (nomark _))
 (pss_one (ps_ret (pe_tup (pa_cons pe_str (pa_cons (pe_call G_law_draw (hr.mono (by decide)) rfl T.g_law_draw T.F_law_draw.kp T.b_law_draw .nil pass0 (pa_cons (pv 0) (pa_cons (pv 2) pa_nil))) pa_nil)))))
 pss_nil)
 (pss_cons (ps_if (pt_cmpR op_eq (pv 1) pe_str (nomark _))
 (pss_one (ps_ret (pe_tup (pa_cons pe_str (pa_cons (pv 5) (pa_cons (pe_call G_law_draw (hr.mono (by decide)) rfl T.g_law_draw T.F_law_draw.kp T.b_law_draw .nil pass0 (pa_cons (pv 0) (pa_cons (pv 2) pa_nil))) pa_nil))))))
 pss_nil)
 (pss_cons (ps_if (pt_cmpR op_in_seq (pv 1) (pe_lst (pa_cons pe_str (pa_cons pe_str (pa_cons pe_str pa_nil)))) rfl)
 (pss_one (ps_ret (pe_tup (pa_cons (pv 1) (pa_cons (pv 5) (pa_cons (pv 8) pa_nil))))))
 pss_nil)
 (pss_cons (ps_if (pt_cmpR op_eq (pv 1) pe_str (nomark _))
 (pss_one (ps_ret (pe_tup (pa_cons pe_str (pa_cons (pv 8) (pa_cons (pv 5) pa_nil))))))
 pss_nil)
 (pss_cons (ps_if (pt_cmpR op_eq (pv 1) pe_str (nomark _))
 (pss_one (ps_ret (pe_tup (pa_cons pe_str (pa_cons (pv 5) (pa_cons (pv 6) (pa_cons (pv 8) pa_nil)))))))
 pss_nil)
 (pss_cons (ps_if (pt_cmpR op_eq (pv 1) pe_str (nomark _))
 (pss_one (ps_ret (pe_tup (pa_cons pe_str (pa_cons (pv 5) (pa_cons (pv 8) (pa_cons (pv 6) pa_nil)))))))
 pss_nil)
 (pss_cons (ps_if (pt_cmpR op_in_seq (pv 1) (pe_lst (pa_cons pe_str (pa_cons pe_str pa_nil))) rfl)
 (pss_one (ps_ret (pe_tup (pa_cons (pv 1) (pa_cons (pv 5) (pa_cons (pv 6) (pa_cons (pv 7) pa_nil)))))))
 pss_nil)
 (pss_cons (ps_if (pt_cmpR op_eq (pv 1) pe_str (nomark _))
 (pss_one (ps_ret (pe_tup (pa_cons pe_str (pa_cons (pv 5) (pa_cons (pv 8) (pa_cons (pv 9) pa_nil)))))))
 pss_nil)
 (pss_cons (ps_if (pt_cmpR op_eq (pv 1) pe_str (nomark _))
 (pss_one (ps_ret (pe_tup (pa_cons pe_str (pa_cons (pv 5) (pa_cons (pv 6) (pa_cons (pv 9) pa_nil)))))))
 pss_nil)
 (pss_cons (ps_if (pt_cmpR op_eq (pv 1) pe_str (nomark _))
 (pss_one (ps_ret (pe_tup (pa_cons pe_str (pa_cons (pv 5) (pa_cons (pv 6) (pa_cons (pv 8) (pa_cons (pv 9) pa_nil))))))))
 pss_nil)
 (pss_cons (ps_if (pt_cmpR op_eq (pv 1) pe_str (nomark _))
 (pss_one (ps_ret (pe_tup (pa_cons pe_str (pa_cons (pv 8) (pa_cons (pv 9) pa_nil))))))
 pss_nil)
 (pss_cons (ps_if (pt_cmpR op_eq (pv 1) pe_str (nomark _))
 (pss_one (ps_ret (pe_tup (pa_cons pe_str pa_nil))))
 pss_nil)
 (pss_one (ps_ret (pe_tup (pa_cons (pv 1) (pa_cons (pv 5) pa_nil)))))))))))))))))))))))))
theorem wk_law_words (T : Txt K w mg A)
    (len : ∀ vs H Q E, sp_law_words K vs H Q E → vs.length = 0) (rd : ∀ vs H Q E, sp_law_words K vs H Q E → t_law_words K w A { nx := fun _ H' => Q .non H', rt := Q } (start n_law_words vs) H) :
    FnOk P w K mg base CX0 1 A.a_law_words A.d_law_words [] (sp_law_words K) := by
  refine T.F_law_words.ok sc_law_words len (fun cdv Ar outer s H vs Q E hr h => ⟨t_law_words K w A, ?_, rd vs H Q E h⟩)
  exact (pss_cons (ps_set (i := 0) sc_law_words.nd rfl (Or.inl rfl) (pe_lst (pa_cons pe_str (pa_cons pe_str (pa_cons pe_str (pa_cons pe_str (pa_cons pe_str (pa_cons pe_str (pa_cons pe_str (pa_cons pe_str (pa_cons pe_str (pa_cons pe_str (pa_cons pe_str (pa_cons pe_str pa_nil))))))))))))))
 (pss_cons (ps_set (i := 0) sc_law_words.nd rfl (Or.inl rfl) (pe_op op_cat (pv 0) (pe_lst (pa_cons pe_str (pa_cons pe_str (pa_cons pe_str (pa_cons pe_str (pa_cons pe_str (pa_cons pe_str (pa_cons pe_str (pa_cons pe_str (pa_cons pe_str (pa_cons pe_str pa_nil)))))))))))))
 (pss_one (ps_ret (pe_op op_cat (pv 0) (pe_lst (pa_cons pe_str (pa_cons pe_str (pa_cons pe_str pa_nil)))))))))
theorem wk_law_drawn (T : Txt K w mg A)
    (G_law_words : FnOk P w K mg base CX0 1 A.a_law_words A.d_law_words [] (sp_law_words K))
    (G_law_draw : FnOk P w K mg base CX0 1 A.a_law_draw A.d_law_draw ["box", "many"] (sp_law_draw K))
    (G_law_row : FnOk P w K mg base CX0 4 A.a_law_row A.d_law_row ["box", "word", "many", "size", "known"] (sp_law_row K))
    (G_law_word : FnOk P w K mg base CX0 2 A.a_law_word A.d_law_word ["box", "known"] (sp_law_word K))
    (len : ∀ vs H Q E, sp_law_drawn K vs H Q E → vs.length = 2) (rd : ∀ vs H Q E, sp_law_drawn K vs H Q E → t_law_drawn K w A { nx := fun _ H' => Q .non H', rt := Q } (start n_law_drawn vs) H) :
    FnOk P w K mg base CX0 5 A.a_law_drawn A.d_law_drawn ["box", "known"] (sp_law_drawn K) := by
  refine T.F_law_drawn.ok sc_law_drawn len (fun cdv Ar outer s H vs Q E hr h => ⟨t_law_drawn K w A, ?_, rd vs H Q E h⟩)
  exact (pss_cons (ps_set (i := 2) sc_law_drawn.nd rfl (Or.inr rfl) (pe_op op_cat (pe_call0 G_law_words (hr.mono (by decide)) rfl T.g_law_words T.F_law_words.kp T.b_law_words .nil pass0) (pe_lst (pa_cons pe_str (pa_cons pe_str (pa_cons pe_str (pa_cons pe_str (pa_cons pe_str (pa_cons pe_str (pa_cons pe_str pa_nil))))))))))
 (pss_cons (ps_set (i := 3) sc_law_drawn.nd rfl (Or.inr rfl) (pe_op op_add pe_int (pe_call G_law_draw (hr.mono (by decide)) rfl T.g_law_draw T.F_law_draw.kp T.b_law_draw .nil pass0 (pa_cons (pv 0) (pa_cons pe_int pa_nil)))))
 (pss_cons (ps_set (i := 4) sc_law_drawn.nd rfl (Or.inr rfl) (pe_op op_add (pe_ix ix_list (pe_lst (pa_cons pe_int (pa_cons pe_int (pa_cons pe_int (pa_cons pe_int (pa_cons pe_int (pa_cons pe_int pa_nil))))))) (pe_call G_law_draw (hr.mono (by decide)) rfl T.g_law_draw T.F_law_draw.kp T.b_law_draw .nil pass0 (pa_cons (pv 0) (pa_cons pe_int pa_nil))) (fun _ _ => rfl)) (pe_call G_law_draw (hr.mono (by decide)) rfl T.g_law_draw T.F_law_draw.kp T.b_law_draw .nil pass0 (pa_cons (pv 0) (pa_cons pe_int pa_nil)))))
 (pss_cons (ps_setLc (i := 6) (own := [("k", 5)]) (g := (gName 5)) (tt := tYes) rfl sc_law_drawn.nd rfl rfl (sw_true rfl rfl rfl (by decide +kernel)) (pi_range1 rfl T.n_range (pa_cons (pe_op op_sub (pv 4) pe_int) pa_nil)) (blkOk_by (own := [("k", 5)]) (N := n_law_drawn) (sc := defScope s_law_drawn) (by decide +kernel)) (fun _ _ _ _ _ => (pg_name (i := 5) sc_law_drawn.nd rfl (Or.inl rfl))) (fun _ _ _ _ _ => pts_nil) (fun _ _ _ _ _ => (pe_call G_law_row (hr.mono (by decide)) rfl T.g_law_row T.F_law_row.kp T.b_law_row .nil pass0 (pa_cons (pv 0) (pa_cons (pe_ix ix_list (pv 2) (pe_call G_law_draw (hr.mono (by decide)) rfl T.g_law_draw T.F_law_draw.kp T.b_law_draw .nil pass0 (pa_cons (pv 0) (pa_cons pe_int pa_nil))) (fun _ _ => rfl)) (pa_cons (pv 4) (pa_cons (pv 3) (pa_cons (pv 1) pa_nil))))))))
 (pss_cons (ps_expr (pe_bm PySem.F.plainAttrs_list PySem.F.slot_list_append PySem.F.type_list_append mt_append (pv 6) (pa_cons (pe_call G_law_row (hr.mono (by decide)) rfl T.g_law_row T.F_law_row.kp T.b_law_row .nil pass0 (pa_cons (pv 0) (pa_cons (pe_ix ix_list (pe_lst (pa_cons pe_str (pa_cons pe_str (pa_cons pe_str pa_nil)))) (pe_call G_law_draw (hr.mono (by decide)) rfl T.g_law_draw T.F_law_draw.kp T.b_law_draw .nil pass0 (pa_cons (pv 0) (pa_cons pe_int pa_nil))) (fun _ _ => rfl)) (pa_cons (pv 4) (pa_cons (pv 3) (pa_cons (pv 1) pa_nil)))))) pa_nil)))
 (pss_cons (ps_set (i := 7) sc_law_drawn.nd rfl (Or.inl rfl) (pe_lst pa_nil))
 (pss_cons (ps_for PassesOwn.never rfl (pi_range1 rfl T.n_range (pa_cons (pe_ix ix_list (pe_lst (pa_cons pe_int (pa_cons pe_int (pa_cons pe_int (pa_cons pe_int pa_nil))))) (pe_call G_law_draw (hr.mono (by decide)) rfl T.g_law_draw T.F_law_draw.kp T.b_law_draw .nil pass0 (pa_cons (pv 0) (pa_cons pe_int pa_nil))) (fun _ _ => rfl)) pa_nil)) (pg_name (i := 5) sc_law_drawn.nd rfl (Or.inl rfl))
 (pss_cons (ps_set (i := 8) sc_law_drawn.nd rfl (Or.inl rfl) (pe_call G_law_draw (hr.mono (by decide)) rfl T.g_law_draw T.F_law_draw.kp T.b_law_draw .nil pass0 (pa_cons (pv 0) (pa_cons (pv 4) pa_nil))))
 (pss_cons (ps_set (i := 9) sc_law_drawn.nd rfl (Or.inl rfl) (pe_op op_add (pv 8) (pe_call G_law_draw (hr.mono (by decide)) rfl T.g_law_draw T.F_law_draw.kp T.b_law_draw .nil pass0 (pa_cons (pv 0) (pa_cons (pe_op op_add (pe_op op_sub (pv 4) (pv 8)) pe_int) pa_nil)))))
 (pss_one (ps_expr (pe_bm PySem.F.plainAttrs_list PySem.F.slot_list_append PySem.F.type_list_append mt_append (pv 7) (pa_cons (pe_tup (pa_cons (pv 8) (pa_cons (pv 9) (pa_cons (pe_call G_law_draw (hr.mono (by decide)) rfl T.g_law_draw T.F_law_draw.kp T.b_law_draw .nil pass0 (pa_cons (pv 0) (pa_cons (pv 4) pa_nil))) (pa_cons (pe_call G_law_draw (hr.mono (by decide)) rfl T.g_law_draw T.F_law_draw.kp T.b_law_draw .nil pass0 (pa_cons (pv 0) (pa_cons (pv 3) pa_nil))) pa_nil))))) pa_nil)))))))
 (pss_cons (ps_if (pt_cmpR op_gt (pe_callB call_len_seq (by rfl) T.n_len (by decide +kernel) (pa_cons (pv 7) pa_nil)) pe_int (nomark _))
 (pss_one (ps_expr (pe_bm PySem.F.plainAttrs_list PySem.F.slot_list_append PySem.F.type_list_append mt_append (pv 7) (pa_cons (pe_ix ix_list (pv 7) (pe_call G_law_draw (hr.mono (by decide)) rfl T.g_law_draw T.F_law_draw.kp T.b_law_draw .nil pass0 (pa_cons (pv 0) (pa_cons pe_int pa_nil))) (fun _ _ => rfl)) pa_nil))))
 pss_nil)
 (pss_one (ps_ret (pe_lst (pa_cons (pe_call G_law_word (hr.mono (by decide)) rfl T.g_law_word T.F_law_word.kp T.b_law_word .nil pass0 (pa_cons (pv 0) (pa_cons (pv 1) pa_nil))) (pa_cons (pe_call G_law_draw (hr.mono (by decide)) rfl T.g_law_draw T.F_law_draw.kp T.b_law_draw .nil pass0 (pa_cons (pv 0) (pa_cons (pe_op op_add (pv 3) pe_int) pa_nil))) (pa_cons (pv 3) (pa_cons (pv 6) (pa_cons (pv 7) pa_nil))))))))))))))))
theorem wk_law_read (T : Txt K w mg A)
    (len : ∀ vs H Q E, sp_law_read K vs H Q E → vs.length = 1) (rd : ∀ vs H Q E, sp_law_read K vs H Q E → t_law_read K w A { nx := fun _ H' => Q .non H', rt := Q } (start n_law_read vs) H) :
    FnOk P w K mg base CX0 1 A.a_law_read A.d_law_read ["row"] (sp_law_read K) := by
  refine T.F_law_read.ok sc_law_read len (fun cdv Ar outer s H vs Q E hr h => ⟨t_law_read K w A, ?_, rd vs H Q E h⟩)
  exact (pss_cons (ps_set (i := 1) sc_law_read.nd rfl (Or.inl rfl) (pe_ix ix_tup (pv 0) pe_int (fun _ _ => rfl)))
 (pss_cons (ps_if (pt_cmpR op_in_seq (pv 1) (pe_lst (pa_cons pe_str (pa_cons pe_str pa_nil))) rfl)
 (pss_one (ps_ret (pe_callTy call_list_of (by rfl) T.n_list (by decide +kernel) (pa_cons (pe_ix ix_tup (pv 0) (pe_un un_neg pe_int) (fun _ _ => rfl)) pa_nil))))
 pss_nil)
 (pss_cons (ps_if (pt_cmpR op_in_seq (pv 1) (pe_lst (pa_cons pe_str (pa_cons pe_str pa_nil))) rfl)
 (pss_one (ps_ret (pe_op op_cat (pe_lst (pa_cons (pe_ix ix_tup (pv 0) pe_int (fun _ _ => rfl)) pa_nil)) (pe_callTy call_list_of (by rfl) T.n_list (by decide +kernel) (pa_cons (pe_ix ix_tup (pv 0) (pe_un un_neg pe_int) (fun _ _ => rfl)) pa_nil)))))
 pss_nil)
 (pss_cons (ps_set (i := 2) sc_law_read.nd rfl (Or.inl rfl) (pe_disp (pps_cons pe_str (pe_lst (pa_cons pe_int pa_nil)) (pps_cons pe_str (pe_lst (pa_cons pe_int (pa_cons pe_int pa_nil))) (pps_cons pe_str (pe_lst (pa_cons pe_int pa_nil)) (pps_cons pe_str (pe_lst (pa_cons pe_int pa_nil)) (pps_cons pe_str (pe_lst (pa_cons pe_int pa_nil)) (pps_cons pe_str (pe_lst (pa_cons pe_int pa_nil)) (pps_cons pe_str (pe_lst (pa_cons pe_int (pa_cons pe_int pa_nil))) pps_nil))))))) (by rfl) (by rfl) (by simp) (by decide)))
 (pss_cons (ps_set (i := 3) sc_law_read.nd rfl (Or.inl rfl) (pe_disp (pps_cons pe_str (pe_lst (pa_cons pe_int pa_nil)) (pps_cons pe_str (pe_lst (pa_cons pe_int pa_nil)) (pps_cons pe_str (pe_lst (pa_cons pe_int (pa_cons pe_int pa_nil))) (pps_cons pe_str (pe_lst (pa_cons pe_int (pa_cons pe_int (pa_cons pe_int pa_nil)))) (pps_cons pe_str (pe_lst (pa_cons pe_int pa_nil)) (pps_cons pe_str (pe_lst (pa_cons pe_int pa_nil)) pps_nil)))))) (by rfl) (by rfl) (by simp) (by decide)))
 (pss_cons (ps_if (pt_cmp (pc_din (hu_of hr) (pv 1) (pv 2)) rfl)
 (pss_one (ps_ret (pe_lc (own := [("place", 4)]) (g := (gName 4)) (tt := tYes) rfl sc_law_read.nd (pi_list (pe_dget (hu_of hr) (pv 2) (pv 1) (fun _ _ => rfl))) (blkOk_by (own := [("place", 4)]) (N := n_law_read) (sc := defScope s_law_read) (by decide +kernel)) (fun _ _ _ _ _ => (pg_name (i := 4) sc_law_read.nd rfl (Or.inl rfl))) (fun _ _ _ _ _ => pts_nil) (fun _ _ _ _ _ => (pe_ix ix_tup (pv 0) (pv 4) (fun _ _ => rfl))))))
 pss_nil)
 (pss_cons (ps_if (pt_cmp (pc_din (hu_of hr) (pv 1) (pv 3)) rfl)
 (pss_one (ps_ret (pe_lc (own := [("place", 4)]) (g := (gName 4)) (tt := tYes) rfl sc_law_read.nd (pi_list (pe_dget (hu_of hr) (pv 3) (pv 1) (fun _ _ => rfl))) (blkOk_by (own := [("place", 4)]) (N := n_law_read) (sc := defScope s_law_read) (by decide +kernel)) (fun _ _ _ _ _ => (pg_name (i := 4) sc_law_read.nd rfl (Or.inl rfl))) (fun _ _ _ _ _ => pts_nil) (fun _ _ _ _ _ => (pe_ix ix_tup (pv 0) (pv 4) (fun _ _ => rfl))))))
 pss_nil)
 (pss_cons (ps_if (pt_cmpR op_in_seq (pv 1) (pe_lst (pa_cons pe_str (pa_cons pe_str (pa_cons pe_str pa_nil)))) rfl)
 (pss_one (ps_ret (pe_lst (pa_cons (pe_ix ix_tup (pv 0) pe_int (fun _ _ => rfl)) pa_nil))))
 pss_nil)
 (pss_one (ps_ret (pe_lst pa_nil)))))))))))
theorem wk_law_written (T : Txt K w mg A)
    (len : ∀ vs H Q E, sp_law_written K vs H Q E → vs.length = 1) (rd : ∀ vs H Q E, sp_law_written K vs H Q E → t_law_written K w A { nx := fun _ H' => Q .non H', rt := Q } (start n_law_written vs) H) :
    FnOk P w K mg base CX0 1 A.a_law_written A.d_law_written ["row"] (sp_law_written K) := by
  refine T.F_law_written.ok sc_law_written len (fun cdv Ar outer s H vs Q E hr h => ⟨t_law_written K w A, ?_, rd vs H Q E h⟩)
  exact (pss_cons (ps_if (pt_cmpR op_eq (pe_ix ix_tup (pv 0) pe_int (fun _ _ => rfl)) pe_str (nomark _))
 (pss_one (ps_ret (pe_ix ix_tup (pv 0) pe_int (fun _ _ => rfl))))
 pss_nil)
 (pss_cons (ps_set (i := 1) sc_law_written.nd rfl (Or.inl rfl) (pe_lst (pa_cons pe_str (pa_cons pe_str (pa_cons pe_str (pa_cons pe_str (pa_cons pe_str (pa_cons pe_str (pa_cons pe_str (pa_cons pe_str (pa_cons pe_str (pa_cons pe_str (pa_cons pe_str (pa_cons pe_str pa_nil))))))))))))))
 (pss_cons (ps_if (pt_cmpR op_in_seq (pe_ix ix_tup (pv 0) pe_int (fun _ _ => rfl)) (pv 1) rfl)
 (pss_one (ps_ret (pe_ix ix_tup (pv 0) pe_int (fun _ _ => rfl))))
 pss_nil)
 (pss_one (ps_ret pe_non)))))
theorem wk_law_later (T : Txt K w mg A)
    (len : ∀ vs H Q E, sp_law_later K vs H Q E → vs.length = 2) (rd : ∀ vs H Q E, sp_law_later K vs H Q E → t_law_later K w A { nx := fun _ H' => Q .non H', rt := Q } (start n_law_later vs) H) :
    FnOk P w K mg base CX0 1 A.a_law_later A.d_law_later ["rows", "at"] (sp_law_later K) := by
  refine T.F_law_later.ok sc_law_later len (fun cdv Ar outer s H vs Q E hr h => ⟨t_law_later K w A, ?_, rd vs H Q E h⟩)
  exact (pss_cons (ps_set (i := 2) sc_law_later.nd rfl (Or.inl rfl) (pe_ix ix_tup (pe_ix ix_list (pv 0) (pv 1) (fun _ _ => rfl)) pe_int (fun _ _ => rfl)))
 (pss_cons (ps_if (pt_cmpR op_in_seq (pv 2) (pe_lst (pa_cons pe_str (pa_cons pe_str pa_nil))) rfl)
 (pss_one (ps_ret (pe_lst pa_nil)))
 pss_nil)
 (pss_cons (ps_if (pt_cmpR op_eq (pv 2) pe_str (nomark _))
 (pss_one (ps_ret (pe_lst (pa_cons (pe_ix ix_tup (pe_ix ix_list (pv 0) (pv 1) (fun _ _ => rfl)) pe_int (fun _ _ => rfl)) pa_nil))))
 pss_nil)
 (pss_cons (ps_if (PW.pt (pw_and (pt_cmpR op_eq (pv 2) pe_str (nomark _)) (pw_and1 (pt_cmpR op_ne (pe_ix ix_tup (pe_ix ix_list (pv 0) (pv 1) (fun _ _ => rfl)) pe_int (fun _ _ => rfl)) (pe_op op_add (pv 1) pe_int) (nomark _)))))
 (pss_one (ps_ret (pe_callB cr_sortedI (by rfl) T.n_sorted (by decide +kernel) (pa_cons (pe_lst (pa_cons (pe_op op_add (pv 1) pe_int) (pa_cons (pe_ix ix_tup (pe_ix ix_list (pv 0) (pv 1) (fun _ _ => rfl)) pe_int (fun _ _ => rfl)) pa_nil))) pa_nil))))
 pss_nil)
 (pss_one (ps_ret (pe_lst (pa_cons (pe_op op_add (pv 1) pe_int) pa_nil))))))))
theorem wk_law_catcher (T : Txt K w mg A)
    (len : ∀ vs H Q E, sp_law_catcher K vs H Q E → vs.length = 2) (rd : ∀ vs H Q E, sp_law_catcher K vs H Q E → t_law_catcher K w A { nx := fun _ H' => Q .non H', rt := Q } (start n_law_catcher vs) H) :
    FnOk P w K mg base CX0 1 A.a_law_catcher A.d_law_catcher ["handlers", "at"] (sp_law_catcher K) := by
  refine T.F_law_catcher.ok sc_law_catcher len (fun cdv Ar outer s H vs Q E hr h => ⟨t_law_catcher K w A, ?_, rd vs H Q E h⟩)
  exact (pss_cons (ps_for PassesOwn.never rfl (pi_list (pv 0)) (pg_name (i := 2) sc_law_catcher.nd rfl (Or.inl rfl))
 (pss_one (ps_if (PW.pt (pw_and (pt_cmpR op_le (pe_ix ix_tup (pv 2) pe_int (fun _ _ => rfl)) (pv 1) (nomark _)) (pw_and1 (pt_cmpR op_lt (pv 1) (pe_ix ix_tup (pv 2) pe_int (fun _ _ => rfl)) (nomark _)))))
 (pss_one (ps_ret (pv 2)))
 pss_nil)))
 (pss_one (ps_ret pe_non)))
theorem wk_law_waits (T : Txt K w mg A)
    (G_law_later : FnOk P w K mg base CX0 1 A.a_law_later A.d_law_later ["rows", "at"] (sp_law_later K))
    (G_law_catcher : FnOk P w K mg base CX0 1 A.a_law_catcher A.d_law_catcher ["handlers", "at"] (sp_law_catcher K))
    (G_law_written : FnOk P w K mg base CX0 1 A.a_law_written A.d_law_written ["row"] (sp_law_written K))
    (len : ∀ vs H Q E, sp_law_waits K vs H Q E → vs.length = 3) (rd : ∀ vs H Q E, sp_law_waits K vs H Q E → t_law_waits K w A { nx := fun _ H' => Q .non H', rt := Q } (start n_law_waits vs) H) :
    FnOk P w K mg base CX0 2 A.a_law_waits A.d_law_waits ["alive", "drawn", "at"] (sp_law_waits K) := by
  refine T.F_law_waits.ok sc_law_waits len (fun cdv Ar outer s H vs Q E hr h => ⟨t_law_waits K w A, ?_, rd vs H Q E h⟩)
  exact (pss_cons (ps_set (i := 3) sc_law_waits.nd rfl (Or.inr rfl) (pe_lst pa_nil))
 (pss_cons (ps_for PassesOwn.never rfl (pi_list (pe_call G_law_later (hr.mono (by decide)) rfl T.g_law_later T.F_law_later.kp T.b_law_later .nil pass0 (pa_cons (pe_ix ix_list (pv 1) pe_int (fun _ _ => rfl)) (pa_cons (pv 2) pa_nil)))) (pg_name (i := 4) sc_law_waits.nd rfl (Or.inl rfl))
 (pss_one (ps_set (i := 3) sc_law_waits.nd rfl (Or.inr rfl) (pe_op op_cat (pv 3) (pe_ix ix_list (pv 0) (pv 4) (fun _ _ => rfl))))))
 (pss_cons (ps_set (i := 5) sc_law_waits.nd rfl (Or.inr rfl) (pe_lst pa_nil))
 (pss_cons (ps_set (i := 6) sc_law_waits.nd rfl (Or.inr rfl) (pe_call G_law_catcher (hr.mono (by decide)) rfl T.g_law_catcher T.F_law_catcher.kp T.b_law_catcher .nil pass0 (pa_cons (pe_ix ix_list (pv 1) pe_int (fun _ _ => rfl)) (pa_cons (pv 2) pa_nil))))
 (pss_cons (ps_if (pt_cmpR op_notN (pv 6) pe_non (nomark _))
 (pss_one (ps_set (i := 5) sc_law_waits.nd rfl (Or.inr rfl) (pe_lc (own := [("slot", 8)]) (g := (gName 8)) (tt := (tTest (tOp rNe (tVar 8) (tOp (rIxT K) (tVar 6) (tC (.int 3)))))) rfl sc_law_waits.nd (pi_list (pe_ix ix_list (pv 0) (pe_ix ix_tup (pv 6) pe_int (fun _ _ => rfl)) (fun _ _ => rfl))) (blkOk_by (own := [("slot", 8)]) (N := n_law_waits) (sc := defScope s_law_waits) (by decide +kernel)) (fun _ _ _ _ _ => (pg_name (i := 8) sc_law_waits.nd rfl (Or.inl rfl))) (fun _ _ _ _ _ => pts_one (pt_cmpR op_ne (pv 8) (pe_ix ix_tup (pv 6) pe_int (fun _ _ => rfl)) (nomark _))) (fun _ _ _ _ _ => (pv 8)))))
 pss_nil)
 (pss_cons (ps_set (i := 7) sc_law_waits.nd rfl (Or.inr rfl) (pe_call G_law_written (hr.mono (by decide)) rfl T.g_law_written T.F_law_written.kp T.b_law_written .nil pass0 (pa_cons (pe_ix ix_list (pe_ix ix_list (pv 1) pe_int (fun _ _ => rfl)) (pv 2) (fun _ _ => rfl)) pa_nil)))
 (pss_one (ps_ret (pe_lc (own := [("slot", 8)]) (g := (gName 8)) (tt := (tOr (tAnd (tTest (tOp (rIn K false) (tVar 8) (tVar 3))) (tTest (tOp (rNeD K) (tVar 8) (tVar 7)))) (tTest (tOp (rIn K false) (tVar 8) (tVar 5))))) rfl sc_law_waits.nd (pi_range1 rfl T.n_range (pa_cons (pe_ix ix_list (pv 1) pe_int (fun _ _ => rfl)) pa_nil)) (blkOk_by (own := [("slot", 8)]) (N := n_law_waits) (sc := defScope s_law_waits) (by decide +kernel)) (fun _ _ _ _ _ => (pg_name (i := 8) sc_law_waits.nd rfl (Or.inl rfl))) (fun _ _ _ _ _ => pts_one (PW.pt (pw_or (PW.pt (pw_and (pt_cmpR op_in_seq (pv 8) (pv 3) rfl) (pw_and1 (pt_cmpR (op_neD hr.units) (pv 8) (pv 7) (nomark _))))) (pw_or1 (pt_cmpR op_in_seq (pv 8) (pv 5) rfl))))) (fun _ _ _ _ _ => (pv 8)))))))))))
theorem wk_law_alive (T : Txt K w mg A)
    (G_law_waits : FnOk P w K mg base CX0 2 A.a_law_waits A.d_law_waits ["alive", "drawn", "at"] (sp_law_waits K))
    (G_law_read : FnOk P w K mg base CX0 1 A.a_law_read A.d_law_read ["row"] (sp_law_read K))
    (len : ∀ vs H Q E, sp_law_alive K vs H Q E → vs.length = 1) (rd : ∀ vs H Q E, sp_law_alive K vs H Q E → t_law_alive K w A { nx := fun _ H' => Q .non H', rt := Q } (start n_law_alive vs) H) :
    FnOk P w K mg base CX0 3 A.a_law_alive A.d_law_alive ["drawn"] (sp_law_alive K) := by
  refine T.F_law_alive.ok sc_law_alive len (fun cdv Ar outer s H vs Q E hr h => ⟨t_law_alive K w A, ?_, rd vs H Q E h⟩)
  exact (pss_cons (ps_set (i := 1) sc_law_alive.nd rfl (Or.inl rfl) (pe_ix ix_list (pv 0) pe_int (fun _ _ => rfl)))
 (pss_cons (ps_set (i := 2) sc_law_alive.nd rfl (Or.inl rfl) (pe_callB call_len_seq (by rfl) T.n_len (by decide +kernel) (pa_cons (pv 1) pa_nil)))
 (pss_cons (ps_setLc (i := 3) (own := [("row", 10)]) (g := (gName 10)) (tt := tYes) rfl sc_law_alive.nd rfl rfl (sw_true rfl rfl rfl (by decide +kernel)) (pi_list (pv 1)) (blkOk_by (own := [("row", 10)]) (N := n_law_alive) (sc := defScope s_law_alive) (by decide +kernel)) (fun _ _ _ _ _ => (pg_name (i := 10) sc_law_alive.nd rfl (Or.inl rfl))) (fun _ _ _ _ _ => pts_nil) (fun _ _ _ _ _ => (pe_lst pa_nil)))
 (pss_cons (ps_for PassesOwn.never rfl (pi_range1 rfl T.n_range (pa_cons (pe_op op_add (pe_op op_mul (pv 2) (pe_ix ix_list (pv 0) pe_int (fun _ _ => rfl))) pe_int) pa_nil)) (pg_name (i := 4) sc_law_alive.nd rfl (Or.inl rfl))
 (pss_cons (ps_set (i := 5) sc_law_alive.nd rfl (Or.inl rfl) (pe_callB (cr_sum rfl) (by rfl) T.n_sum (by decide +kernel) (pa_cons (pe_lc (own := [("slots", 11)]) (g := (gName 11)) (tt := tYes) rfl sc_law_alive.nd (pi_list (pv 3)) (blkOk_by (own := [("slots", 11)]) (N := n_law_alive) (sc := defScope s_law_alive) (by decide +kernel)) (fun _ _ _ _ _ => (pg_name (i := 11) sc_law_alive.nd rfl (Or.inl rfl))) (fun _ _ _ _ _ => pts_nil) (fun _ _ _ _ _ => (pe_callB call_len_seq (by rfl) T.n_len (by decide +kernel) (pa_cons (pv 11) pa_nil)))) pa_nil)))
 (pss_cons (ps_for PassesOwn.never rfl (pi_range1 rfl T.n_range (pa_cons (pv 2) pa_nil)) (pg_name (i := 6) sc_law_alive.nd rfl (Or.inl rfl))
 (pss_cons (ps_set (i := 7) sc_law_alive.nd rfl (Or.inl rfl) (pe_op op_sub (pe_op op_sub (pv 2) pe_int) (pv 6)))
 (pss_cons (ps_set (i := 8) sc_law_alive.nd rfl (Or.inr rfl) (pe_call G_law_waits (hr.mono (by decide)) rfl T.g_law_waits T.F_law_waits.kp T.b_law_waits .nil pass0 (pa_cons (pv 3) (pa_cons (pv 0) (pa_cons (pv 7) pa_nil)))))
 (pss_cons (ps_set (i := 9) sc_law_alive.nd rfl (Or.inr rfl) (pe_call G_law_read (hr.mono (by decide)) rfl T.g_law_read T.F_law_read.kp T.b_law_read .nil pass0 (pa_cons (pe_ix ix_list (pv 1) (pv 7) (fun _ _ => rfl)) pa_nil)))
 (pss_one (ps_asg (pe_lc (own := [("slot", 12)]) (g := (gName 12)) (tt := (tOr (tTest (tOp (rIn K false) (tVar 12) (tVar 8))) (tTest (tOp (rIn K false) (tVar 12) (tVar 9))))) rfl sc_law_alive.nd (pi_range1 rfl T.n_range (pa_cons (pe_ix ix_list (pv 0) pe_int (fun _ _ => rfl)) pa_nil)) (blkOk_by (own := [("slot", 12)]) (N := n_law_alive) (sc := defScope s_law_alive) (by decide +kernel)) (fun _ _ _ _ _ => (pg_name (i := 12) sc_law_alive.nd rfl (Or.inl rfl))) (fun _ _ _ _ _ => pts_one (PW.pt (pw_or (pt_cmpR op_in_seq (pv 12) (pv 8) rfl) (pw_or1 (pt_cmpR op_in_seq (pv 12) (pv 9) rfl))))) (fun _ _ _ _ _ => (pv 12))) (pg_sub (pv 3) (pv 7) set_list)))))))
 (pss_one (ps_if (pt_cmpR op_eq (pe_callB (cr_sum rfl) (by rfl) T.n_sum (by decide +kernel) (pa_cons (pe_lc (own := [("slots", 11)]) (g := (gName 11)) (tt := tYes) rfl sc_law_alive.nd (pi_list (pv 3)) (blkOk_by (own := [("slots", 11)]) (N := n_law_alive) (sc := defScope s_law_alive) (by decide +kernel)) (fun _ _ _ _ _ => (pg_name (i := 11) sc_law_alive.nd rfl (Or.inl rfl))) (fun _ _ _ _ _ => pts_nil) (fun _ _ _ _ _ => (pe_callB call_len_seq (by rfl) T.n_len (by decide +kernel) (pa_cons (pv 11) pa_nil)))) pa_nil)) (pv 5) (nomark _))
 (pss_one ps_break)
 pss_nil)))))
 (pss_one (ps_ret (pv 3)))))))
theorem wk_law_same (T : Txt K w mg A)
    (len : ∀ n vs H Q E, sp_law_same n K vs H Q E → vs.length = 2) (zero : ∀ vs H Q E, ¬ sp_law_same 0 K vs H Q E) (rd : ∀ n vs H Q E, sp_law_same (n + 1) K vs H Q E → t_law_same n K w A { nx := fun _ H' => Q .non H', rt := Q } (start n_law_same vs) H) :
    ∀ n, FnOk P w K mg base CX0 (1 + n) A.a_law_same A.d_law_same ["value", "due"] (sp_law_same n K) := by
  intro n
  induction n with
  | zero => exact T.F_law_same.ok sc_law_same (len 0) (fun cdv Ar outer s H vs Q E hr h => (zero vs H Q E h).elim)
  | succ n ih =>
  refine T.F_law_same.ok sc_law_same (len (n + 1)) (fun cdv Ar outer s H vs Q E hr h => ⟨t_law_same n K w A, ?_, rd n vs H Q E h⟩)
  have hr : Room (1 + n) _ := hr
  exact (pss_cons (ps_if (PW.pt (pw_or (pt_val (pe_callB call_isi (by rfl) T.n_isinstance (by decide +kernel) (pa_cons (pv 1) (pa_cons (pe_bltn (v := .ty "list") (by rfl) T.n_list (by decide +kernel) rfl) pa_nil)))) (pw_or1 (pt_val (pe_callB call_isi (by rfl) T.n_isinstance (by decide +kernel) (pa_cons (pv 1) (pa_cons (pe_bltn (v := .ty "tuple") (by rfl) T.n_tuple (by decide +kernel) rfl) pa_nil)))))))
 (pss_cons (ps_if (PW.pt (pw_and (pt_val (pe_callB call_isi (by rfl) T.n_isinstance (by decide +kernel) (pa_cons (pv 1) (pa_cons (pe_bltn (v := .ty "list") (by rfl) T.n_list (by decide +kernel) rfl) pa_nil)))) (pw_and1 (pt_not (pt_val (pe_callB call_isi (by rfl) T.n_isinstance (by decide +kernel) (pa_cons (pv 0) (pa_cons (pe_bltn (v := .ty "list") (by rfl) T.n_list (by decide +kernel) rfl) pa_nil))))))))
 (pss_one (ps_ret pe_bl))
 pss_nil)
 (pss_cons (ps_if (PW.pt (pw_and (pt_val (pe_callB call_isi (by rfl) T.n_isinstance (by decide +kernel) (pa_cons (pv 1) (pa_cons (pe_bltn (v := .ty "tuple") (by rfl) T.n_tuple (by decide +kernel) rfl) pa_nil)))) (pw_and1 (pt_not (pt_val (pe_callB call_isi (by rfl) T.n_isinstance (by decide +kernel) (pa_cons (pv 0) (pa_cons (pe_bltn (v := .ty "tuple") (by rfl) T.n_tuple (by decide +kernel) rfl) pa_nil))))))))
 (pss_one (ps_ret pe_bl))
 pss_nil)
 (pss_one (ps_ret (pe_and (pe_cmpR op_eq (pe_callB call_len_seq (by rfl) T.n_len (by decide +kernel) (pa_cons (pv 0) pa_nil)) (pe_callB call_len_seq (by rfl) T.n_len (by decide +kernel) (pa_cons (pv 1) pa_nil)) (nomark _)) (pe_one (pe_callB (cr_all rfl) (by rfl) T.n_all (by decide +kernel) (pa_cons (pe_lc (own := [("k", 2)]) (g := (gName 2)) (tt := tYes) rfl sc_law_same.nd (pi_range1 rfl T.n_range (pa_cons (pe_callB call_len_seq (by rfl) T.n_len (by decide +kernel) (pa_cons (pv 1) pa_nil)) pa_nil)) (blkOk_by (own := [("k", 2)]) (N := n_law_same) (sc := defScope s_law_same) (by decide +kernel)) (fun _ _ _ _ _ => (pg_name (i := 2) sc_law_same.nd rfl (Or.inl rfl))) (fun _ _ _ _ _ => pts_nil) (fun _ _ _ _ _ => (pe_call ih (hr.mono (by omega)) rfl T.g_law_same T.F_law_same.kp T.b_law_same .nil pass0 (pa_cons (pe_ix (IxR.or ix_list ix_tup) (pv 0) (pv 2) (fun _ _ => rfl)) (pa_cons (pe_ix (IxR.or ix_list ix_tup) (pv 1) (pv 2) (fun _ _ => rfl)) pa_nil))))) pa_nil))))))))
 pss_nil)
 (pss_cons (ps_if (pt_cmpR op_isN (pv 1) pe_non (nomark _))
 (pss_one (ps_ret (pe_cmpR op_isN (pv 0) pe_non (nomark _))))
 pss_nil)
 (pss_cons (ps_if (pt_val (pe_callB call_isi (by rfl) T.n_isinstance (by decide +kernel) (pa_cons (pv 1) (pa_cons (pe_bltn (v := .ty "str") (by rfl) T.n_str (by decide +kernel) rfl) pa_nil))))
 (pss_one (ps_ret (pe_and (pe_callB call_isi (by rfl) T.n_isinstance (by decide +kernel) (pa_cons (pv 0) (pa_cons (pe_bltn (v := .ty "str") (by rfl) T.n_str (by decide +kernel) rfl) pa_nil))) (pe_one (pe_cmpR op_eq (pv 0) (pv 1) (nomark _))))))
 pss_nil)
 (pss_one (ps_ret (pe_and (pe_callB call_isi (by rfl) T.n_isinstance (by decide +kernel) (pa_cons (pv 0) (pa_cons (pe_bltn (v := .ty "int") (by rfl) T.n_int (by decide +kernel) rfl) pa_nil))) (pe_and (pe_not (pe_callB call_isi (by rfl) T.n_isinstance (by decide +kernel) (pa_cons (pv 0) (pa_cons (pe_bltn (v := .ty "bool") (by rfl) T.n_bool (by decide +kernel) rfl) pa_nil)))) (pe_one (pe_cmpR op_eq (pv 0) (pv 1) (nomark _))))))))))
theorem wk_law_live_agrees (T : Txt K w mg A)
    (G_live : FnOk P w K mg base CX0 5 A.a_live A.d_live ["code"] (sp_live K))
    (G_law_same : FnOk P w K mg base CX0 6 A.a_law_same A.d_law_same ["value", "due"] (sp_law_same 5 K))
    (len : ∀ vs H Q E, sp_law_live_agrees K vs H Q E → vs.length = 2) (rd : ∀ vs H Q E, sp_law_live_agrees K vs H Q E → t_law_live_agrees K w A { nx := fun _ H' => Q .non H', rt := Q } (start n_law_live_agrees vs) H) :
    FnOk P w K mg base CX0 7 A.a_law_live_agrees A.d_law_live_agrees ["code", "alive"] (sp_law_live_agrees K) := by
  refine T.F_law_live_agrees.ok sc_law_live_agrees len (fun cdv Ar outer s H vs Q E hr h => ⟨t_law_live_agrees K w A, ?_, rd vs H Q E h⟩)
  exact (pss_cons (ps_set (i := 2) sc_law_live_agrees.nd rfl (Or.inl rfl) (pe_call G_live (hr.mono (by decide)) rfl T.g_live T.F_live.kp T.b_live .nil pass0 (pa_cons (pv 0) pa_nil)))
 (pss_cons (ps_if (pt_not (pt_val (pe_call G_law_same (hr.mono (by decide)) rfl T.g_law_same T.F_law_same.kp T.b_law_same .nil pass0 (pa_cons (pv 2) (pa_cons (pv 1) pa_nil)))))
 (pss_one (ps_ret pe_bl))
 pss_nil)
 (pss_cons (ps_for PassesOwn.never rfl (pi_list (pv 2)) (pg_name (i := 3) sc_law_live_agrees.nd rfl (Or.inl rfl))
 (pss_one (ps_expr (pe_bm PySem.F.plainAttrs_list PySem.F.slot_list_append PySem.F.type_list_append mt_append (pv 3) (pa_cons pe_int pa_nil)))))
 (pss_cons (ps_expr (pe_bm0 PySem.F.plainAttrs_list PySem.F.slot_list_clear PySem.F.type_list_clear mt_clear (pv 2)))
 (pss_one (ps_ret pe_bl))))))
theorem wk_law_waiting_agrees (T : Txt K w mg A)
    (G_waiting : FnOk P w K mg base CX0 5 A.a_waiting A.d_waiting ["code", "pc"] (sp_waiting K))
    (G_law_same : FnOk P w K mg base CX0 6 A.a_law_same A.d_law_same ["value", "due"] (sp_law_same 5 K))
    (G_law_waits : FnOk P w K mg base CX0 2 A.a_law_waits A.d_law_waits ["alive", "drawn", "at"] (sp_law_waits K))
    (len : ∀ vs H Q E, sp_law_waiting_agrees K vs H Q E → vs.length = 4) (rd : ∀ vs H Q E, sp_law_waiting_agrees K vs H Q E → t_law_waiting_agrees K w A { nx := fun _ H' => Q .non H', rt := Q } (start n_law_waiting_agrees vs) H) :
    FnOk P w K mg base CX0 7 A.a_law_waiting_agrees A.d_law_waiting_agrees ["code", "drawn", "alive", "asked"] (sp_law_waiting_agrees K) := by
  refine T.F_law_waiting_agrees.ok sc_law_waiting_agrees len (fun cdv Ar outer s H vs Q E hr h => ⟨t_law_waiting_agrees K w A, ?_, rd vs H Q E h⟩)
  exact (pss_cons (ps_for PassesOwn.never rfl (pi_list (pv 3)) (pg_name (i := 4) sc_law_waiting_agrees.nd rfl (Or.inl rfl))
 (pss_cons (ps_set (i := 5) sc_law_waiting_agrees.nd rfl (Or.inl rfl) (pe_call G_waiting (hr.mono (by decide)) rfl T.g_waiting T.F_waiting.kp T.b_waiting .nil pass0 (pa_cons (pv 0) (pa_cons (pv 4) pa_nil))))
 (pss_cons (ps_if (pt_not (pt_val (pe_call G_law_same (hr.mono (by decide)) rfl T.g_law_same T.F_law_same.kp T.b_law_same .nil pass0 (pa_cons (pv 5) (pa_cons (pe_call G_law_waits (hr.mono (by decide)) rfl T.g_law_waits T.F_law_waits.kp T.b_law_waits .nil pass0 (pa_cons (pv 2) (pa_cons (pv 1) (pa_cons (pv 4) pa_nil)))) pa_nil)))))
 (pss_one (ps_ret pe_bl))
 pss_nil)
 (pss_one (ps_expr (pe_bm PySem.F.plainAttrs_list PySem.F.slot_list_append PySem.F.type_list_append mt_append (pv 5) (pa_cons pe_int pa_nil)))))))
 (pss_one (ps_ret pe_bl)))
theorem wk_law (T : Txt K w mg A)
    (G_law_box : FnOk P w K mg base CX0 1 A.a_law_box A.d_law_box ["script"] (sp_law_box K))
    (G_law_drawn : FnOk P w K mg base CX0 5 A.a_law_drawn A.d_law_drawn ["box", "known"] (sp_law_drawn K))
    (G_Code_init : FnOk P w K mg base CX0 1 A.a_Code_init A.d_Code_init ["self", "name", "params", "size", "rows", "handlers"] (sp_Code_init K))
    (G_law_alive : FnOk P w K mg base CX0 3 A.a_law_alive A.d_law_alive ["drawn"] (sp_law_alive K))
    (G_law_draw : FnOk P w K mg base CX0 1 A.a_law_draw A.d_law_draw ["box", "many"] (sp_law_draw K))
    (G_law_live_agrees : FnOk P w K mg base CX0 7 A.a_law_live_agrees A.d_law_live_agrees ["code", "alive"] (sp_law_live_agrees K))
    (G_law_waiting_agrees : FnOk P w K mg base CX0 7 A.a_law_waiting_agrees A.d_law_waiting_agrees ["code", "drawn", "alive", "asked"] (sp_law_waiting_agrees K))
    (G_law_same : FnOk P w K mg base CX0 6 A.a_law_same A.d_law_same ["value", "due"] (sp_law_same 5 K))
    (len : ∀ vs H Q E, sp_law K vs H Q E → vs.length = 1) (rd : ∀ vs H Q E, sp_law K vs H Q E → t_law K w A { nx := fun _ H' => Q .non H', rt := Q } (start n_law vs) H) :
    FnOk P w K mg base CX0 8 A.a_law A.d_law ["script"] (sp_law K) := by
  refine T.F_law.ok sc_law len (fun cdv Ar outer s H vs Q E hr h => ⟨t_law K w A, ?_, rd vs H Q E h⟩)
  exact (pss_cons (ps_set (i := 1) sc_law.nd rfl (Or.inl rfl) (pe_call G_law_box (hr.mono (by decide)) rfl T.g_law_box T.F_law_box.kp T.b_law_box .nil pass0 (pa_cons (pv 0) pa_nil)))
 (pss_cons (ps_set (i := 2) sc_law.nd rfl (Or.inl rfl) (pe_lst pa_nil))
 (pss_cons (ps_set (i := 3) sc_law.nd rfl (Or.inl rfl) (pe_lst (pa_cons (pe_call G_law_drawn (hr.mono (by decide)) rfl T.g_law_drawn T.F_law_drawn.kp T.b_law_drawn .nil pass0 (pa_cons (pv 1) (pa_cons (pv 2) pa_nil))) (pa_cons (pe_call G_law_drawn (hr.mono (by decide)) rfl T.g_law_drawn T.F_law_drawn.kp T.b_law_drawn .nil pass0 (pa_cons (pv 1) (pa_cons (pv 2) pa_nil))) pa_nil))))
 (pss_cons (ps_setLc (i := 4) (own := [("one", 10)]) (g := (gName 10)) (tt := tYes) rfl sc_law.nd rfl rfl (sw_true rfl rfl rfl (by decide +kernel)) (pi_list (pv 3)) (blkOk_by (own := [("one", 10)]) (N := n_law) (sc := defScope s_law) (by decide +kernel)) (fun _ _ _ _ _ => (pg_name (i := 10) sc_law.nd rfl (Or.inl rfl))) (fun _ _ _ _ _ => pts_nil) (fun _ _ _ _ _ => (pe_make T.m_Code G_Code_init (hr.mono (by decide)) rfl T.gc_Code T.b_Code_init .nil pass0 (pa_cons (pe_ix ix_list (pv 10) pe_int (fun _ _ => rfl)) (pa_cons (pe_ix ix_list (pv 10) pe_int (fun _ _ => rfl)) (pa_cons (pe_ix ix_list (pv 10) pe_int (fun _ _ => rfl)) (pa_cons (pe_callTy call_list_of (by rfl) T.n_list (by decide +kernel) (pa_cons (pe_ix ix_list (pv 10) pe_int (fun _ _ => rfl)) pa_nil)) (pa_cons (pe_callTy call_list_of (by rfl) T.n_list (by decide +kernel) (pa_cons (pe_ix ix_list (pv 10) pe_int (fun _ _ => rfl)) pa_nil)) pa_nil))))))))
 (pss_cons (ps_setLc (i := 5) (own := [("one", 10)]) (g := (gName 10)) (tt := tYes) rfl sc_law.nd rfl rfl (sw_true rfl rfl rfl (by decide +kernel)) (pi_list (pv 3)) (blkOk_by (own := [("one", 10)]) (N := n_law) (sc := defScope s_law) (by decide +kernel)) (fun _ _ _ _ _ => (pg_name (i := 10) sc_law.nd rfl (Or.inl rfl))) (fun _ _ _ _ _ => pts_nil) (fun _ _ _ _ _ => (pe_call G_law_alive (hr.mono (by decide)) rfl T.g_law_alive T.F_law_alive.kp T.b_law_alive .nil pass0 (pa_cons (pv 10) pa_nil))))
 (pss_cons (ps_for PassesOwn.never rfl (pi_range1 rfl T.n_range (pa_cons pe_int pa_nil)) (pg_name (i := 6) sc_law.nd rfl (Or.inl rfl))
 (pss_cons (ps_set (i := 7) sc_law.nd rfl (Or.inl rfl) (pe_op op_mod (pv 6) pe_int))
 (pss_cons (ps_set (i := 8) sc_law.nd rfl (Or.inl rfl) (pe_listRg rfl rfl T.n_list (prg_1 rfl T.n_range (pe_callB call_len_seq (by rfl) T.n_len (by decide +kernel) (pa_cons (pe_ix ix_list (pv 5) (pv 7) (fun _ _ => rfl)) pa_nil)))))
 (pss_cons (ps_if (pt_cmpR op_gt (pv 6) pe_int (nomark _))
 (pss_one (ps_set (i := 8) sc_law.nd rfl (Or.inl rfl) (pe_lst (pa_cons (pe_call G_law_draw (hr.mono (by decide)) rfl T.g_law_draw T.F_law_draw.kp T.b_law_draw .nil pass0 (pa_cons (pv 1) (pa_cons (pe_callB call_len_seq (by rfl) T.n_len (by decide +kernel) (pa_cons (pe_ix ix_list (pv 5) (pv 7) (fun _ _ => rfl)) pa_nil)) pa_nil))) pa_nil))))
 pss_nil)
 (pss_cons (ps_for PassesOwn.never rfl (pi_list (pe_ix ix_list (pe_lst (pa_cons (pe_lst (pa_cons pe_int (pa_cons pe_int pa_nil))) (pa_cons (pe_lst (pa_cons pe_int (pa_cons pe_int pa_nil))) pa_nil))) (pe_call G_law_draw (hr.mono (by decide)) rfl T.g_law_draw T.F_law_draw.kp T.b_law_draw .nil pass0 (pa_cons (pv 1) (pa_cons pe_int pa_nil))) (fun _ _ => rfl))) (pg_name (i := 9) sc_law.nd rfl (Or.inl rfl))
 (pss_cons (ps_if (PW.pt (pw_and (pt_cmpR op_eq (pv 9) pe_int (nomark _)) (pw_and1 (pt_not (pt_val (pe_call G_law_live_agrees (hr.mono (by decide)) rfl T.g_law_live_agrees T.F_law_live_agrees.kp T.b_law_live_agrees .nil pass0 (pa_cons (pe_ix ix_list (pv 4) (pv 7) (fun _ _ => rfl)) (pa_cons (pe_ix ix_list (pv 5) (pv 7) (fun _ _ => rfl)) pa_nil))))))))
 (pss_one (ps_ret pe_bl))
 pss_nil)
 (pss_one (ps_if (PW.pt (pw_and (pt_cmpR op_eq (pv 9) pe_int (nomark _)) (pw_and1 (pt_not (pt_val (pe_call G_law_waiting_agrees (hr.mono (by decide)) rfl T.g_law_waiting_agrees T.F_law_waiting_agrees.kp T.b_law_waiting_agrees .nil pass0 (pa_cons (pe_ix ix_list (pv 4) (pv 7) (fun _ _ => rfl)) (pa_cons (pe_ix ix_list (pv 3) (pv 7) (fun _ _ => rfl)) (pa_cons (pe_ix ix_list (pv 5) (pv 7) (fun _ _ => rfl)) (pa_cons (pv 8) pa_nil))))))))))
 (pss_one (ps_ret pe_bl))
 pss_nil))))
 (pss_one (ps_if (pt_not (pt_val (pe_call G_law_same (hr.mono (by decide)) rfl T.g_law_same T.F_law_same.kp T.b_law_same .nil pass0 (pa_cons (pe_lst (pa_cons (pe_fld (pe_ix ix_list (pv 4) (pv 7) (fun _ _ => rfl)) rfl) (pa_cons (pe_fld (pe_ix ix_list (pv 4) (pv 7) (fun _ _ => rfl)) rfl) pa_nil))) (pa_cons (pe_lst (pa_cons (pe_ix ix_list (pe_ix ix_list (pv 3) (pv 7) (fun _ _ => rfl)) pe_int (fun _ _ => rfl)) (pa_cons (pe_ix ix_list (pe_ix ix_list (pv 3) (pv 7) (fun _ _ => rfl)) pe_int (fun _ _ => rfl)) pa_nil))) pa_nil)))))
 (pss_one (ps_ret pe_bl))
 pss_nil)))))))
 (pss_one (ps_ret pe_bl))))))))
end
end LW
end
section
namespace LW
open PySem PySem.Spec PyProof.Rows L2 Rf
section
variable {P : Program} {w : World} {K : PySem.W.Frag} {mg : Str → Option Value} {base : Heap} {A : Adr}
theorem len_handler_at {vs H Q E} (h : sp_handler_at K vs H Q E) : vs.length = 2 := by
  obtain ⟨_, _, _, _, _, _, rfl, _⟩ := h
  rfl
theorem len_slots_read {vs H Q E} (h : sp_slots_read K vs H Q E) : vs.length = 1 := by
  obtain ⟨_, _, _, _, rfl, _⟩ := h
  rfl
theorem len_target {vs H Q E} (h : sp_target K vs H Q E) : vs.length = 1 := by
  obtain ⟨_, _, _, _, rfl, _⟩ := h
  rfl
theorem len_following {vs H Q E} (h : sp_following K vs H Q E) : vs.length = 2 := by
  obtain ⟨_, _, _, _, _, _, _, rfl, _⟩ := h
  rfl
theorem len_live {vs H Q E} (h : sp_live K vs H Q E) : vs.length = 1 := by
  obtain ⟨_, _, _, rfl, _⟩ := h
  rfl
theorem len_waiting {vs H Q E} (h : sp_waiting K vs H Q E) : vs.length = 2 := by
  obtain ⟨_, _, _, _, rfl, _⟩ := h
  rfl
theorem len_slots_in {vs H Q E} (h : sp_slots_in K vs H Q E) : vs.length = 1 := by
  obtain ⟨_, rfl, _⟩ := h
  rfl
theorem len_mask_of {vs H Q E} (h : sp_mask_of K vs H Q E) : vs.length = 1 := by
  obtain ⟨_, _, rfl, _⟩ := h
  rfl
theorem len_without_slot {vs H Q E} (h : sp_without_slot K vs H Q E) : vs.length = 2 := by
  obtain ⟨_, _, rfl, _⟩ := h
  rfl
theorem len_live_masks {vs H Q E} (h : sp_live_masks K vs H Q E) : vs.length = 1 := by
  obtain ⟨_, _, _, rfl, _⟩ := h
  rfl
theorem len_solved_masks {vs H Q E} (h : sp_solved_masks K vs H Q E) : vs.length = 1 := by
  obtain ⟨_, _, _, _, _, rfl, _⟩ := h
  rfl
theorem len_waiting_mask {vs H Q E} (h : sp_waiting_mask K vs H Q E) : vs.length = 3 := by
  obtain ⟨_, _, _, _, _, _, _, _, rfl, _⟩ := h
  rfl
theorem len_Code_init {vs H Q E} (h : sp_Code_init K vs H Q E) : vs.length = 6 := by
  obtain ⟨_, _, _, _, _, _, _, _, _, _, rfl, _⟩ := h
  rfl
theorem len_law_box {vs H Q E} (h : sp_law_box K vs H Q E) : vs.length = 1 := by
  obtain ⟨_, _, rfl, _⟩ := h
  rfl
theorem len_law_draw {vs H Q E} (h : sp_law_draw K vs H Q E) : vs.length = 2 := by
  obtain ⟨_, _, _, _, rfl, _⟩ := h
  rfl
theorem len_law_reserved {vs H Q E} (h : sp_law_reserved K vs H Q E) : vs.length = 0 := by
  obtain ⟨_, rfl, _⟩ := h
  rfl
theorem len_law_word {vs H Q E} (h : sp_law_word K vs H Q E) : vs.length = 2 := by
  obtain ⟨_, _, _, _, rfl, _⟩ := h
  rfl
theorem len_law_value {vs H Q E} (h : sp_law_value K vs H Q E) : vs.length = 2 := by
  obtain ⟨_, _, _, _, rfl, _⟩ := h
  rfl
theorem len_law_row {vs H Q E} (h : sp_law_row K vs H Q E) : vs.length = 5 := by
  obtain ⟨_, _, _, _, _, _, _, rfl, _⟩ := h
  rfl
theorem len_law_words {vs H Q E} (h : sp_law_words K vs H Q E) : vs.length = 0 := by
  obtain ⟨_, rfl, _⟩ := h
  rfl
theorem len_law_drawn {vs H Q E} (h : sp_law_drawn K vs H Q E) : vs.length = 2 := by
  obtain ⟨_, _, _, _, rfl, _⟩ := h
  rfl
theorem len_law_read {vs H Q E} (h : sp_law_read K vs H Q E) : vs.length = 1 := by
  obtain ⟨_, _, _, _, rfl, _⟩ := h
  rfl
theorem len_law_written {vs H Q E} (h : sp_law_written K vs H Q E) : vs.length = 1 := by
  obtain ⟨_, _, _, _, rfl, _⟩ := h
  rfl
theorem len_law_later {vs H Q E} (h : sp_law_later K vs H Q E) : vs.length = 2 := by
  obtain ⟨_, _, _, _, rfl, _⟩ := h
  rfl
theorem len_law_catcher {vs H Q E} (h : sp_law_catcher K vs H Q E) : vs.length = 2 := by
  obtain ⟨_, _, _, rfl, _⟩ := h
  rfl
theorem len_law_waits {vs H Q E} (h : sp_law_waits K vs H Q E) : vs.length = 3 := by
  obtain ⟨_, _, _, _, _, _, _, rfl, _⟩ := h
  rfl
theorem len_law_alive {vs H Q E} (h : sp_law_alive K vs H Q E) : vs.length = 1 := by
  obtain ⟨_, _, _, _, rfl, _⟩ := h
  rfl
theorem len_law_same {n vs H Q E} (h : sp_law_same n K vs H Q E) : vs.length = 2 := by
  obtain ⟨_, _, _, rfl, _⟩ := h
  rfl
theorem len_law_live_agrees {vs H Q E} (h : sp_law_live_agrees K vs H Q E) : vs.length = 2 := by
  obtain ⟨_, _, _, _, rfl, _⟩ := h
  rfl
theorem len_law_waiting_agrees {vs H Q E} (h : sp_law_waiting_agrees K vs H Q E) : vs.length = 4 := by
  obtain ⟨_, _, _, _, _, _, _, _, _, rfl, _⟩ := h
  rfl
theorem len_law {vs H Q E} (h : sp_law K vs H Q E) : vs.length = 1 := by
  obtain ⟨_, _, rfl, _⟩ := h
  rfl
theorem ok_law_box (T : Txt K w mg A) : FnOk P w K mg base CX0 1 A.a_law_box A.d_law_box ["script"] (sp_law_box K) :=
  wk_law_box T  (fun vs H Q E h => len_law_box h) (fun vs H Q E h => rd_law_box T h)
theorem ok_law_words (T : Txt K w mg A) : FnOk P w K mg base CX0 1 A.a_law_words A.d_law_words [] (sp_law_words K) :=
  wk_law_words T  (fun vs H Q E h => len_law_words h) (fun vs H Q E h => rd_law_words T h)
theorem ok_law_draw (T : Txt K w mg A) : FnOk P w K mg base CX0 1 A.a_law_draw A.d_law_draw ["box", "many"] (sp_law_draw K) :=
  wk_law_draw T  (fun vs H Q E h => len_law_draw h) (fun vs H Q E h => rd_law_draw T h)
theorem ok_law_reserved (T : Txt K w mg A) : FnOk P w K mg base CX0 1 A.a_law_reserved A.d_law_reserved [] (sp_law_reserved K) :=
  wk_law_reserved T  (fun vs H Q E h => len_law_reserved h) (fun vs H Q E h => rd_law_reserved T h)
theorem ok_law_word (T : Txt K w mg A) : FnOk P w K mg base CX0 2 A.a_law_word A.d_law_word ["box", "known"] (sp_law_word K) :=
  wk_law_word T (ok_law_draw T) (ok_law_reserved T) (fun vs H Q E h => len_law_word h) (fun vs H Q E h => rd_law_word T h)
theorem ok_law_value (T : Txt K w mg A) : FnOk P w K mg base CX0 3 A.a_law_value A.d_law_value ["box", "known"] (sp_law_value K) :=
  wk_law_value T (ok_law_draw T) (ok_law_word T) (fun vs H Q E h => len_law_value h) (fun vs H Q E h => rd_law_value T h)
theorem ok_law_row (T : Txt K w mg A) : FnOk P w K mg base CX0 4 A.a_law_row A.d_law_row ["box", "word", "many", "size", "known"] (sp_law_row K) :=
  wk_law_row T (ok_law_draw T) (ok_law_word T) (ok_law_value T) (fun vs H Q E h => len_law_row h) (fun vs H Q E h => rd_law_row T h)
theorem ok_law_drawn (T : Txt K w mg A) : FnOk P w K mg base CX0 5 A.a_law_drawn A.d_law_drawn ["box", "known"] (sp_law_drawn K) :=
  wk_law_drawn T (ok_law_words T) (ok_law_draw T) (ok_law_row T) (ok_law_word T) (fun vs H Q E h => len_law_drawn h) (fun vs H Q E h => rd_law_drawn T h)
theorem ok_Code_init (T : Txt K w mg A) : FnOk P w K mg base CX0 1 A.a_Code_init A.d_Code_init ["self", "name", "params", "size", "rows", "handlers"] (sp_Code_init K) :=
  wk_Code_init T  (fun vs H Q E h => len_Code_init h) (fun vs H Q E h => rd_Code_init T h)
theorem ok_law_later (T : Txt K w mg A) : FnOk P w K mg base CX0 1 A.a_law_later A.d_law_later ["rows", "at"] (sp_law_later K) :=
  wk_law_later T  (fun vs H Q E h => len_law_later h) (fun vs H Q E h => rd_law_later T h)
theorem ok_law_catcher (T : Txt K w mg A) : FnOk P w K mg base CX0 1 A.a_law_catcher A.d_law_catcher ["handlers", "at"] (sp_law_catcher K) :=
  wk_law_catcher T  (fun vs H Q E h => len_law_catcher h) (fun vs H Q E h => rd_law_catcher T h)
theorem ok_law_written (T : Txt K w mg A) : FnOk P w K mg base CX0 1 A.a_law_written A.d_law_written ["row"] (sp_law_written K) :=
  wk_law_written T  (fun vs H Q E h => len_law_written h) (fun vs H Q E h => rd_law_written T h)
theorem ok_law_waits (T : Txt K w mg A) : FnOk P w K mg base CX0 2 A.a_law_waits A.d_law_waits ["alive", "drawn", "at"] (sp_law_waits K) :=
  wk_law_waits T (ok_law_later T) (ok_law_catcher T) (ok_law_written T) (fun vs H Q E h => len_law_waits h) (fun vs H Q E h => rd_law_waits T h)
theorem ok_law_read (T : Txt K w mg A) : FnOk P w K mg base CX0 1 A.a_law_read A.d_law_read ["row"] (sp_law_read K) :=
  wk_law_read T  (fun vs H Q E h => len_law_read h) (fun vs H Q E h => rd_law_read T h)
theorem ok_law_alive (T : Txt K w mg A) : FnOk P w K mg base CX0 3 A.a_law_alive A.d_law_alive ["drawn"] (sp_law_alive K) :=
  wk_law_alive T (ok_law_waits T) (ok_law_read T) (fun vs H Q E h => len_law_alive h) (fun vs H Q E h => rd_law_alive T h)
theorem ok_mask_of (T : Txt K w mg A) : FnOk P w K mg base CX0 1 A.a_mask_of A.d_mask_of ["slots"] (sp_mask_of K) :=
  wk_mask_of T  (fun vs H Q E h => len_mask_of h) (fun vs H Q E h => rd_mask_of T h)
theorem ok_slots_read (T : Txt K w mg A) : FnOk P w K mg base CX0 1 A.a_slots_read A.d_slots_read ["row"] (sp_slots_read K) :=
  wk_slots_read T  (fun vs H Q E h => len_slots_read h) (fun vs H Q E h => rd_slots_read T h)
theorem ok_following (T : Txt K w mg A) : FnOk P w K mg base CX0 1 A.a_following A.d_following ["code", "pc"] (sp_following K) :=
  wk_following T  (fun vs H Q E h => len_following h) (fun vs H Q E h => rd_following T h)
theorem ok_target (T : Txt K w mg A) : FnOk P w K mg base CX0 1 A.a_target A.d_target ["row"] (sp_target K) :=
  wk_target T  (fun vs H Q E h => len_target h) (fun vs H Q E h => rd_target T h)
theorem ok_without_slot (T : Txt K w mg A) : FnOk P w K mg base CX0 1 A.a_without_slot A.d_without_slot ["mask", "slot"] (sp_without_slot K) :=
  wk_without_slot T  (fun vs H Q E h => len_without_slot h) (fun vs H Q E h => rd_without_slot T h)
theorem ok_handler_at (T : Txt K w mg A) : FnOk P w K mg base CX0 1 A.a_handler_at A.d_handler_at ["code", "pc"] (sp_handler_at K) :=
  wk_handler_at T  (fun vs H Q E h => len_handler_at h) (fun vs H Q E h => rd_handler_at T h)
theorem ok_waiting_mask (T : Txt K w mg A) : FnOk P w K mg base CX0 2 A.a_waiting_mask A.d_waiting_mask ["code", "masks", "pc"] (sp_waiting_mask K) :=
  wk_waiting_mask T (ok_following T) (ok_target T) (ok_without_slot T) (ok_handler_at T) (fun vs H Q E h => len_waiting_mask h) (fun vs H Q E h => rd_waiting_mask T h)
theorem ok_solved_masks (T : Txt K w mg A) : FnOk P w K mg base CX0 3 A.a_solved_masks A.d_solved_masks ["code"] (sp_solved_masks K) :=
  wk_solved_masks T (ok_mask_of T) (ok_slots_read T) (ok_waiting_mask T) (fun vs H Q E h => len_solved_masks h) (fun vs H Q E h => rd_solved_masks T h)
theorem ok_live_masks (T : Txt K w mg A) : FnOk P w K mg base CX0 4 A.a_live_masks A.d_live_masks ["code"] (sp_live_masks K) :=
  wk_live_masks T (ok_solved_masks T) (fun vs H Q E h => len_live_masks h) (fun vs H Q E h => rd_live_masks T h)
theorem ok_slots_in (T : Txt K w mg A) : FnOk P w K mg base CX0 1 A.a_slots_in A.d_slots_in ["mask"] (sp_slots_in K) :=
  wk_slots_in T  (fun vs H Q E h => len_slots_in h) (fun vs H Q E h => rd_slots_in T h)
theorem ok_live (T : Txt K w mg A) : FnOk P w K mg base CX0 5 A.a_live A.d_live ["code"] (sp_live K) :=
  wk_live T (ok_live_masks T) (ok_slots_in T) (fun vs H Q E h => len_live h) (fun vs H Q E h => rd_live T h)
theorem ok_law_same (T : Txt K w mg A) : FnOk P w K mg base CX0 (1 + 5) A.a_law_same A.d_law_same ["value", "due"] (sp_law_same 5 K) :=
  wk_law_same T  (fun n vs H Q E h => len_law_same h) (fun vs H Q E h => zero_law_same h) (fun n vs H Q E h => rd_law_same T h) 5
theorem ok_law_live_agrees (T : Txt K w mg A) : FnOk P w K mg base CX0 7 A.a_law_live_agrees A.d_law_live_agrees ["code", "alive"] (sp_law_live_agrees K) :=
  wk_law_live_agrees T (ok_live T) (ok_law_same T) (fun vs H Q E h => len_law_live_agrees h) (fun vs H Q E h => rd_law_live_agrees T h)
theorem ok_waiting (T : Txt K w mg A) : FnOk P w K mg base CX0 5 A.a_waiting A.d_waiting ["code", "pc"] (sp_waiting K) :=
  wk_waiting T (ok_slots_in T) (ok_waiting_mask T) (ok_live_masks T) (fun vs H Q E h => len_waiting h) (fun vs H Q E h => rd_waiting T h)
theorem ok_law_waiting_agrees (T : Txt K w mg A) : FnOk P w K mg base CX0 7 A.a_law_waiting_agrees A.d_law_waiting_agrees ["code", "drawn", "alive", "asked"] (sp_law_waiting_agrees K) :=
  wk_law_waiting_agrees T (ok_waiting T) (ok_law_same T) (ok_law_waits T) (fun vs H Q E h => len_law_waiting_agrees h) (fun vs H Q E h => rd_law_waiting_agrees T h)
theorem ok_law (T : Txt K w mg A) : FnOk P w K mg base CX0 8 A.a_law A.d_law ["script"] (sp_law K) :=
  wk_law T (ok_law_box T) (ok_law_drawn T) (ok_Code_init T) (ok_law_alive T) (ok_law_draw T) (ok_law_live_agrees T) (ok_law_waiting_agrees T) (ok_law_same T) (fun vs H Q E h => len_law h) (fun vs H Q E h => rd_law T h)
end
theorem all_mk {l : PySem.W.OpenLaw} {w : World} {K : PySem.W.Frag} {h : Heap} {mg : Str → Option Value} {fa : Addr} (X : K.In h) (G : h.Ns mainGlobals mg) (hfa : mg "law" = some (.ref fa))
    {f_handler_at f_slots_read f_target f_following f_live f_waiting f_slots_in f_mask_of f_without_slot f_live_masks f_solved_masks f_waiting_mask f_Code_init f_law_box f_law_draw f_law_reserved f_law_word f_law_value f_law_row f_law_words f_law_drawn f_law_read f_law_written f_law_later f_law_catcher f_law_waits f_law_alive f_law_same f_law_live_agrees f_law_waiting_agrees f_law C_Code c_LISTS c_READS c_WRITES : Addr}
    {od_handler_at an_handler_at od_slots_read an_slots_read od_target an_target od_following an_following od_live an_live od_waiting an_waiting od_slots_in an_slots_in od_mask_of an_mask_of od_without_slot an_without_slot od_live_masks an_live_masks od_solved_masks an_solved_masks od_waiting_mask an_waiting_mask od_Code_init an_Code_init od_law_box an_law_box od_law_draw an_law_draw od_law_reserved an_law_reserved od_law_word an_law_word od_law_value an_law_value od_law_row an_law_row od_law_words an_law_words od_law_drawn an_law_drawn od_law_read an_law_read od_law_written an_law_written od_law_later an_law_later od_law_catcher an_law_catcher od_law_waits an_law_waits od_law_alive an_law_alive od_law_same an_law_same od_law_live_agrees an_law_live_agrees od_law_waiting_agrees an_law_waiting_agrees od_law an_law : Option Addr}
    {sl_handler_at sl_slots_read sl_target sl_following sl_live sl_waiting sl_slots_in sl_mask_of sl_without_slot sl_live_masks sl_solved_masks sl_waiting_mask sl_Code_init sl_law_box sl_law_draw sl_law_reserved sl_law_word sl_law_value sl_law_row sl_law_words sl_law_drawn sl_law_read sl_law_written sl_law_later sl_law_catcher sl_law_waits sl_law_alive sl_law_same sl_law_live_agrees sl_law_waiting_agrees sl_law : Array (Option Value)}
    {oc_handler_at kV_handler_at dc_handler_at pm_handler_at cd_handler_at ct_handler_at oc_slots_read kV_slots_read dc_slots_read pm_slots_read cd_slots_read ct_slots_read oc_target kV_target dc_target pm_target cd_target ct_target oc_following kV_following dc_following pm_following cd_following ct_following oc_live kV_live dc_live pm_live cd_live ct_live oc_waiting kV_waiting dc_waiting pm_waiting cd_waiting ct_waiting oc_slots_in kV_slots_in dc_slots_in pm_slots_in cd_slots_in ct_slots_in oc_mask_of kV_mask_of dc_mask_of pm_mask_of cd_mask_of ct_mask_of oc_without_slot kV_without_slot dc_without_slot pm_without_slot cd_without_slot ct_without_slot oc_live_masks kV_live_masks dc_live_masks pm_live_masks cd_live_masks ct_live_masks oc_solved_masks kV_solved_masks dc_solved_masks pm_solved_masks cd_solved_masks ct_solved_masks oc_waiting_mask kV_waiting_mask dc_waiting_mask pm_waiting_mask cd_waiting_mask ct_waiting_mask oc_Code_init kV_Code_init dc_Code_init pm_Code_init cd_Code_init ct_Code_init oc_law_box kV_law_box dc_law_box pm_law_box cd_law_box ct_law_box oc_law_draw kV_law_draw dc_law_draw pm_law_draw cd_law_draw ct_law_draw oc_law_reserved kV_law_reserved dc_law_reserved pm_law_reserved cd_law_reserved ct_law_reserved oc_law_word kV_law_word dc_law_word pm_law_word cd_law_word ct_law_word oc_law_value kV_law_value dc_law_value pm_law_value cd_law_value ct_law_value oc_law_row kV_law_row dc_law_row pm_law_row cd_law_row ct_law_row oc_law_words kV_law_words dc_law_words pm_law_words cd_law_words ct_law_words oc_law_drawn kV_law_drawn dc_law_drawn pm_law_drawn cd_law_drawn ct_law_drawn oc_law_read kV_law_read dc_law_read pm_law_read cd_law_read ct_law_read oc_law_written kV_law_written dc_law_written pm_law_written cd_law_written ct_law_written oc_law_later kV_law_later dc_law_later pm_law_later cd_law_later ct_law_later oc_law_catcher kV_law_catcher dc_law_catcher pm_law_catcher cd_law_catcher ct_law_catcher oc_law_waits kV_law_waits dc_law_waits pm_law_waits cd_law_waits ct_law_waits oc_law_alive kV_law_alive dc_law_alive pm_law_alive cd_law_alive ct_law_alive oc_law_same kV_law_same dc_law_same pm_law_same cd_law_same ct_law_same oc_law_live_agrees kV_law_live_agrees dc_law_live_agrees pm_law_live_agrees cd_law_live_agrees ct_law_live_agrees oc_law_waiting_agrees kV_law_waiting_agrees dc_law_waiting_agrees pm_law_waiting_agrees cd_law_waiting_agrees ct_law_waiting_agrees oc_law kV_law dc_law pm_law cd_law ct_law : Value}
    {es_LISTS : Array DictEntry} {ep_LISTS : Nat}
    {wq_LISTS_0 : Tok}
    {wq_LISTS_1 : Tok}
    {wq_LISTS_2 : Tok}
    {wq_LISTS_3 : Tok}
    {es_READS : Array DictEntry} {ep_READS : Nat}
    {wt_READS_0 : Addr} {wd_READS_0 : Option Addr} {wn_READS_0 : Nat} {ws_READS_0 : Array (Option Value)}
    {wt_READS_1 : Addr} {wd_READS_1 : Option Addr} {wn_READS_1 : Nat} {ws_READS_1 : Array (Option Value)} {wq_READS_1_0 : Tok}
    {wt_READS_2 : Addr} {wd_READS_2 : Option Addr} {wn_READS_2 : Nat} {ws_READS_2 : Array (Option Value)} {wq_READS_2_0 wq_READS_2_1 : Tok}
    {wt_READS_3 : Addr} {wd_READS_3 : Option Addr} {wn_READS_3 : Nat} {ws_READS_3 : Array (Option Value)} {wq_READS_3_0 : Tok}
    {wt_READS_4 : Addr} {wd_READS_4 : Option Addr} {wn_READS_4 : Nat} {ws_READS_4 : Array (Option Value)}
    {wt_READS_5 : Addr} {wd_READS_5 : Option Addr} {wn_READS_5 : Nat} {ws_READS_5 : Array (Option Value)} {wq_READS_5_0 : Tok}
    {wt_READS_6 : Addr} {wd_READS_6 : Option Addr} {wn_READS_6 : Nat} {ws_READS_6 : Array (Option Value)}
    {wt_READS_7 : Addr} {wd_READS_7 : Option Addr} {wn_READS_7 : Nat} {ws_READS_7 : Array (Option Value)} {wq_READS_7_0 : Tok}
    {wt_READS_8 : Addr} {wd_READS_8 : Option Addr} {wn_READS_8 : Nat} {ws_READS_8 : Array (Option Value)}
    {wt_READS_9 : Addr} {wd_READS_9 : Option Addr} {wn_READS_9 : Nat} {ws_READS_9 : Array (Option Value)} {wq_READS_9_0 : Tok}
    {wt_READS_10 : Addr} {wd_READS_10 : Option Addr} {wn_READS_10 : Nat} {ws_READS_10 : Array (Option Value)} {wq_READS_10_0 wq_READS_10_1 : Tok}
    {wt_READS_11 : Addr} {wd_READS_11 : Option Addr} {wn_READS_11 : Nat} {ws_READS_11 : Array (Option Value)} {wq_READS_11_0 : Tok}
    {wt_READS_12 : Addr} {wd_READS_12 : Option Addr} {wn_READS_12 : Nat} {ws_READS_12 : Array (Option Value)} {wq_READS_12_0 : Tok}
    {wt_READS_13 : Addr} {wd_READS_13 : Option Addr} {wn_READS_13 : Nat} {ws_READS_13 : Array (Option Value)} {wq_READS_13_0 wq_READS_13_1 : Tok}
    {wt_READS_14 : Addr} {wd_READS_14 : Option Addr} {wn_READS_14 : Nat} {ws_READS_14 : Array (Option Value)} {wq_READS_14_0 wq_READS_14_1 wq_READS_14_2 : Tok}
    {wt_READS_15 : Addr} {wd_READS_15 : Option Addr} {wn_READS_15 : Nat} {ws_READS_15 : Array (Option Value)} {wq_READS_15_0 : Tok}
    {wt_READS_16 : Addr} {wd_READS_16 : Option Addr} {wn_READS_16 : Nat} {ws_READS_16 : Array (Option Value)}
    {wt_READS_17 : Addr} {wd_READS_17 : Option Addr} {wn_READS_17 : Nat} {ws_READS_17 : Array (Option Value)} {wq_READS_17_0 : Tok}
    {wt_READS_18 : Addr} {wd_READS_18 : Option Addr} {wn_READS_18 : Nat} {ws_READS_18 : Array (Option Value)} {wq_READS_18_0 : Tok}
    {wt_READS_19 : Addr} {wd_READS_19 : Option Addr} {wn_READS_19 : Nat} {ws_READS_19 : Array (Option Value)} {wq_READS_19_0 : Tok}
    {wt_READS_20 : Addr} {wd_READS_20 : Option Addr} {wn_READS_20 : Nat} {ws_READS_20 : Array (Option Value)} {wq_READS_20_0 : Tok}
    {wt_READS_21 : Addr} {wd_READS_21 : Option Addr} {wn_READS_21 : Nat} {ws_READS_21 : Array (Option Value)} {wq_READS_21_0 : Tok}
    {wt_READS_22 : Addr} {wd_READS_22 : Option Addr} {wn_READS_22 : Nat} {ws_READS_22 : Array (Option Value)} {wq_READS_22_0 : Tok}
    {wt_READS_23 : Addr} {wd_READS_23 : Option Addr} {wn_READS_23 : Nat} {ws_READS_23 : Array (Option Value)}
    {wt_READS_24 : Addr} {wd_READS_24 : Option Addr} {wn_READS_24 : Nat} {ws_READS_24 : Array (Option Value)}
    {es_WRITES : Array DictEntry} {ep_WRITES : Nat}
    {wq_WRITES_0 : Tok}
    {wq_WRITES_1 : Tok}
    {wq_WRITES_2 : Tok}
    {wq_WRITES_3 : Tok}
    {wq_WRITES_4 : Tok}
    {wq_WRITES_5 : Tok}
    {wq_WRITES_6 : Tok}
    {wq_WRITES_7 : Tok}
    {wq_WRITES_8 : Tok}
    {wq_WRITES_9 : Tok}
    {wq_WRITES_10 : Tok}
    {wq_WRITES_11 : Tok}
    {wq_WRITES_12 : Tok}
    (gc_Code : PySem.W.nsIn K mainGlobals "Code" = some (some (.ref C_Code)))
    (pg_Code : PySem.W.plainGet K C_Code Str.empty = true)
    (hd_Code : PySem.W.hasDictIn K C_Code = true)
    (po_Code : PySem.W.plainOver K C_Code = true)
    (sa_Code : PySem.W.findIn K (.ref C_Code) "__setattr__" = some (some (.builtin "object.__setattr__")))
    (mk_Code : PySem.W.makesIn K C_Code = true)
    (kc_Code : PySem.W.keepIn K (.ref C_Code) = true)
    (na_Code_name : PySem.W.findIn K (.ref C_Code) "name" = some none)
    (na_Code_params : PySem.W.findIn K (.ref C_Code) "params" = some none)
    (na_Code_size : PySem.W.findIn K (.ref C_Code) "size" = some none)
    (na_Code_rows : PySem.W.findIn K (.ref C_Code) "rows" = some none)
    (na_Code_handlers : PySem.W.findIn K (.ref C_Code) "handlers" = some none)
    (na_Code_known_live : PySem.W.findIn K (.ref C_Code) "known_live" = some none)
    (a_handler_at : PySem.W.nsIn K mainGlobals "handler_at" = some (some (.ref f_handler_at)))
    (l_handler_at : K.lookup f_handler_at = some ⟨oc_handler_at, od_handler_at, .func (PySem.W.fnOf "handler_at" "handler_at" (defArgs s_handler_at) (defBody s_handler_at) (defScope s_handler_at) .none kV_handler_at dc_handler_at pm_handler_at an_handler_at cd_handler_at ct_handler_at), sl_handler_at⟩)
    (c_handler_at : PySem.W.codeIn K cd_handler_at "handler_at" = true)
    (k_handler_at : PySem.W.keepIn K (.ref f_handler_at) = true)
    (a_slots_read : PySem.W.nsIn K mainGlobals "slots_read" = some (some (.ref f_slots_read)))
    (l_slots_read : K.lookup f_slots_read = some ⟨oc_slots_read, od_slots_read, .func (PySem.W.fnOf "slots_read" "slots_read" (defArgs s_slots_read) (defBody s_slots_read) (defScope s_slots_read) .none kV_slots_read dc_slots_read pm_slots_read an_slots_read cd_slots_read ct_slots_read), sl_slots_read⟩)
    (c_slots_read : PySem.W.codeIn K cd_slots_read "slots_read" = true)
    (k_slots_read : PySem.W.keepIn K (.ref f_slots_read) = true)
    (a_target : PySem.W.nsIn K mainGlobals "target" = some (some (.ref f_target)))
    (l_target : K.lookup f_target = some ⟨oc_target, od_target, .func (PySem.W.fnOf "target" "target" (defArgs s_target) (defBody s_target) (defScope s_target) .none kV_target dc_target pm_target an_target cd_target ct_target), sl_target⟩)
    (c_target : PySem.W.codeIn K cd_target "target" = true)
    (k_target : PySem.W.keepIn K (.ref f_target) = true)
    (a_following : PySem.W.nsIn K mainGlobals "following" = some (some (.ref f_following)))
    (l_following : K.lookup f_following = some ⟨oc_following, od_following, .func (PySem.W.fnOf "following" "following" (defArgs s_following) (defBody s_following) (defScope s_following) .none kV_following dc_following pm_following an_following cd_following ct_following), sl_following⟩)
    (c_following : PySem.W.codeIn K cd_following "following" = true)
    (k_following : PySem.W.keepIn K (.ref f_following) = true)
    (a_live : PySem.W.nsIn K mainGlobals "live" = some (some (.ref f_live)))
    (l_live : K.lookup f_live = some ⟨oc_live, od_live, .func (PySem.W.fnOf "live" "live" (defArgs s_live) (defBody s_live) (defScope s_live) .none kV_live dc_live pm_live an_live cd_live ct_live), sl_live⟩)
    (c_live : PySem.W.codeIn K cd_live "live" = true)
    (k_live : PySem.W.keepIn K (.ref f_live) = true)
    (a_waiting : PySem.W.nsIn K mainGlobals "waiting" = some (some (.ref f_waiting)))
    (l_waiting : K.lookup f_waiting = some ⟨oc_waiting, od_waiting, .func (PySem.W.fnOf "waiting" "waiting" (defArgs s_waiting) (defBody s_waiting) (defScope s_waiting) .none kV_waiting dc_waiting pm_waiting an_waiting cd_waiting ct_waiting), sl_waiting⟩)
    (c_waiting : PySem.W.codeIn K cd_waiting "waiting" = true)
    (k_waiting : PySem.W.keepIn K (.ref f_waiting) = true)
    (a_slots_in : PySem.W.nsIn K mainGlobals "slots_in" = some (some (.ref f_slots_in)))
    (l_slots_in : K.lookup f_slots_in = some ⟨oc_slots_in, od_slots_in, .func (PySem.W.fnOf "slots_in" "slots_in" (defArgs s_slots_in) (defBody s_slots_in) (defScope s_slots_in) .none kV_slots_in dc_slots_in pm_slots_in an_slots_in cd_slots_in ct_slots_in), sl_slots_in⟩)
    (c_slots_in : PySem.W.codeIn K cd_slots_in "slots_in" = true)
    (k_slots_in : PySem.W.keepIn K (.ref f_slots_in) = true)
    (a_mask_of : PySem.W.nsIn K mainGlobals "mask_of" = some (some (.ref f_mask_of)))
    (l_mask_of : K.lookup f_mask_of = some ⟨oc_mask_of, od_mask_of, .func (PySem.W.fnOf "mask_of" "mask_of" (defArgs s_mask_of) (defBody s_mask_of) (defScope s_mask_of) .none kV_mask_of dc_mask_of pm_mask_of an_mask_of cd_mask_of ct_mask_of), sl_mask_of⟩)
    (c_mask_of : PySem.W.codeIn K cd_mask_of "mask_of" = true)
    (k_mask_of : PySem.W.keepIn K (.ref f_mask_of) = true)
    (a_without_slot : PySem.W.nsIn K mainGlobals "without_slot" = some (some (.ref f_without_slot)))
    (l_without_slot : K.lookup f_without_slot = some ⟨oc_without_slot, od_without_slot, .func (PySem.W.fnOf "without_slot" "without_slot" (defArgs s_without_slot) (defBody s_without_slot) (defScope s_without_slot) .none kV_without_slot dc_without_slot pm_without_slot an_without_slot cd_without_slot ct_without_slot), sl_without_slot⟩)
    (c_without_slot : PySem.W.codeIn K cd_without_slot "without_slot" = true)
    (k_without_slot : PySem.W.keepIn K (.ref f_without_slot) = true)
    (a_live_masks : PySem.W.nsIn K mainGlobals "live_masks" = some (some (.ref f_live_masks)))
    (l_live_masks : K.lookup f_live_masks = some ⟨oc_live_masks, od_live_masks, .func (PySem.W.fnOf "live_masks" "live_masks" (defArgs s_live_masks) (defBody s_live_masks) (defScope s_live_masks) .none kV_live_masks dc_live_masks pm_live_masks an_live_masks cd_live_masks ct_live_masks), sl_live_masks⟩)
    (c_live_masks : PySem.W.codeIn K cd_live_masks "live_masks" = true)
    (k_live_masks : PySem.W.keepIn K (.ref f_live_masks) = true)
    (a_solved_masks : PySem.W.nsIn K mainGlobals "solved_masks" = some (some (.ref f_solved_masks)))
    (l_solved_masks : K.lookup f_solved_masks = some ⟨oc_solved_masks, od_solved_masks, .func (PySem.W.fnOf "solved_masks" "solved_masks" (defArgs s_solved_masks) (defBody s_solved_masks) (defScope s_solved_masks) .none kV_solved_masks dc_solved_masks pm_solved_masks an_solved_masks cd_solved_masks ct_solved_masks), sl_solved_masks⟩)
    (c_solved_masks : PySem.W.codeIn K cd_solved_masks "solved_masks" = true)
    (k_solved_masks : PySem.W.keepIn K (.ref f_solved_masks) = true)
    (a_waiting_mask : PySem.W.nsIn K mainGlobals "waiting_mask" = some (some (.ref f_waiting_mask)))
    (l_waiting_mask : K.lookup f_waiting_mask = some ⟨oc_waiting_mask, od_waiting_mask, .func (PySem.W.fnOf "waiting_mask" "waiting_mask" (defArgs s_waiting_mask) (defBody s_waiting_mask) (defScope s_waiting_mask) .none kV_waiting_mask dc_waiting_mask pm_waiting_mask an_waiting_mask cd_waiting_mask ct_waiting_mask), sl_waiting_mask⟩)
    (c_waiting_mask : PySem.W.codeIn K cd_waiting_mask "waiting_mask" = true)
    (k_waiting_mask : PySem.W.keepIn K (.ref f_waiting_mask) = true)
    (a_Code_init : PySem.W.findIn K (.ref C_Code) "__init__" = some (some (.ref f_Code_init)))
    (i_Code_init : PySem.W.isFn K (.ref f_Code_init) = true)
    (l_Code_init : K.lookup f_Code_init = some ⟨oc_Code_init, od_Code_init, .func (PySem.W.fnOf "__init__" "Code.__init__" (defArgs s_Code_init) (defBody s_Code_init) (defScope s_Code_init) .none kV_Code_init dc_Code_init pm_Code_init an_Code_init cd_Code_init ct_Code_init), sl_Code_init⟩)
    (c_Code_init : PySem.W.codeIn K cd_Code_init "Code.__init__" = true)
    (k_Code_init : PySem.W.keepIn K (.ref f_Code_init) = true)
    (a_law_box : PySem.W.nsIn K mainGlobals "_law_box" = some (some (.ref f_law_box)))
    (l_law_box : K.lookup f_law_box = some ⟨oc_law_box, od_law_box, .func (PySem.W.fnOf "_law_box" "_law_box" (defArgs s_law_box) (defBody s_law_box) (defScope s_law_box) .none kV_law_box dc_law_box pm_law_box an_law_box cd_law_box ct_law_box), sl_law_box⟩)
    (c_law_box : PySem.W.codeIn K cd_law_box "_law_box" = true)
    (k_law_box : PySem.W.keepIn K (.ref f_law_box) = true)
    (a_law_draw : PySem.W.nsIn K mainGlobals "_law_draw" = some (some (.ref f_law_draw)))
    (l_law_draw : K.lookup f_law_draw = some ⟨oc_law_draw, od_law_draw, .func (PySem.W.fnOf "_law_draw" "_law_draw" (defArgs s_law_draw) (defBody s_law_draw) (defScope s_law_draw) .none kV_law_draw dc_law_draw pm_law_draw an_law_draw cd_law_draw ct_law_draw), sl_law_draw⟩)
    (c_law_draw : PySem.W.codeIn K cd_law_draw "_law_draw" = true)
    (k_law_draw : PySem.W.keepIn K (.ref f_law_draw) = true)
    (a_law_reserved : PySem.W.nsIn K mainGlobals "_law_reserved" = some (some (.ref f_law_reserved)))
    (l_law_reserved : K.lookup f_law_reserved = some ⟨oc_law_reserved, od_law_reserved, .func (PySem.W.fnOf "_law_reserved" "_law_reserved" (defArgs s_law_reserved) (defBody s_law_reserved) (defScope s_law_reserved) .none kV_law_reserved dc_law_reserved pm_law_reserved an_law_reserved cd_law_reserved ct_law_reserved), sl_law_reserved⟩)
    (c_law_reserved : PySem.W.codeIn K cd_law_reserved "_law_reserved" = true)
    (k_law_reserved : PySem.W.keepIn K (.ref f_law_reserved) = true)
    (a_law_word : PySem.W.nsIn K mainGlobals "_law_word" = some (some (.ref f_law_word)))
    (l_law_word : K.lookup f_law_word = some ⟨oc_law_word, od_law_word, .func (PySem.W.fnOf "_law_word" "_law_word" (defArgs s_law_word) (defBody s_law_word) (defScope s_law_word) .none kV_law_word dc_law_word pm_law_word an_law_word cd_law_word ct_law_word), sl_law_word⟩)
    (c_law_word : PySem.W.codeIn K cd_law_word "_law_word" = true)
    (k_law_word : PySem.W.keepIn K (.ref f_law_word) = true)
    (a_law_value : PySem.W.nsIn K mainGlobals "_law_value" = some (some (.ref f_law_value)))
    (l_law_value : K.lookup f_law_value = some ⟨oc_law_value, od_law_value, .func (PySem.W.fnOf "_law_value" "_law_value" (defArgs s_law_value) (defBody s_law_value) (defScope s_law_value) .none kV_law_value dc_law_value pm_law_value an_law_value cd_law_value ct_law_value), sl_law_value⟩)
    (c_law_value : PySem.W.codeIn K cd_law_value "_law_value" = true)
    (k_law_value : PySem.W.keepIn K (.ref f_law_value) = true)
    (a_law_row : PySem.W.nsIn K mainGlobals "_law_row" = some (some (.ref f_law_row)))
    (l_law_row : K.lookup f_law_row = some ⟨oc_law_row, od_law_row, .func (PySem.W.fnOf "_law_row" "_law_row" (defArgs s_law_row) (defBody s_law_row) (defScope s_law_row) .none kV_law_row dc_law_row pm_law_row an_law_row cd_law_row ct_law_row), sl_law_row⟩)
    (c_law_row : PySem.W.codeIn K cd_law_row "_law_row" = true)
    (k_law_row : PySem.W.keepIn K (.ref f_law_row) = true)
    (a_law_words : PySem.W.nsIn K mainGlobals "_law_words" = some (some (.ref f_law_words)))
    (l_law_words : K.lookup f_law_words = some ⟨oc_law_words, od_law_words, .func (PySem.W.fnOf "_law_words" "_law_words" (defArgs s_law_words) (defBody s_law_words) (defScope s_law_words) .none kV_law_words dc_law_words pm_law_words an_law_words cd_law_words ct_law_words), sl_law_words⟩)
    (c_law_words : PySem.W.codeIn K cd_law_words "_law_words" = true)
    (k_law_words : PySem.W.keepIn K (.ref f_law_words) = true)
    (a_law_drawn : PySem.W.nsIn K mainGlobals "_law_drawn" = some (some (.ref f_law_drawn)))
    (l_law_drawn : K.lookup f_law_drawn = some ⟨oc_law_drawn, od_law_drawn, .func (PySem.W.fnOf "_law_drawn" "_law_drawn" (defArgs s_law_drawn) (defBody s_law_drawn) (defScope s_law_drawn) .none kV_law_drawn dc_law_drawn pm_law_drawn an_law_drawn cd_law_drawn ct_law_drawn), sl_law_drawn⟩)
    (c_law_drawn : PySem.W.codeIn K cd_law_drawn "_law_drawn" = true)
    (k_law_drawn : PySem.W.keepIn K (.ref f_law_drawn) = true)
    (a_law_read : PySem.W.nsIn K mainGlobals "_law_read" = some (some (.ref f_law_read)))
    (l_law_read : K.lookup f_law_read = some ⟨oc_law_read, od_law_read, .func (PySem.W.fnOf "_law_read" "_law_read" (defArgs s_law_read) (defBody s_law_read) (defScope s_law_read) .none kV_law_read dc_law_read pm_law_read an_law_read cd_law_read ct_law_read), sl_law_read⟩)
    (c_law_read : PySem.W.codeIn K cd_law_read "_law_read" = true)
    (k_law_read : PySem.W.keepIn K (.ref f_law_read) = true)
    (a_law_written : PySem.W.nsIn K mainGlobals "_law_written" = some (some (.ref f_law_written)))
    (l_law_written : K.lookup f_law_written = some ⟨oc_law_written, od_law_written, .func (PySem.W.fnOf "_law_written" "_law_written" (defArgs s_law_written) (defBody s_law_written) (defScope s_law_written) .none kV_law_written dc_law_written pm_law_written an_law_written cd_law_written ct_law_written), sl_law_written⟩)
    (c_law_written : PySem.W.codeIn K cd_law_written "_law_written" = true)
    (k_law_written : PySem.W.keepIn K (.ref f_law_written) = true)
    (a_law_later : PySem.W.nsIn K mainGlobals "_law_later" = some (some (.ref f_law_later)))
    (l_law_later : K.lookup f_law_later = some ⟨oc_law_later, od_law_later, .func (PySem.W.fnOf "_law_later" "_law_later" (defArgs s_law_later) (defBody s_law_later) (defScope s_law_later) .none kV_law_later dc_law_later pm_law_later an_law_later cd_law_later ct_law_later), sl_law_later⟩)
    (c_law_later : PySem.W.codeIn K cd_law_later "_law_later" = true)
    (k_law_later : PySem.W.keepIn K (.ref f_law_later) = true)
    (a_law_catcher : PySem.W.nsIn K mainGlobals "_law_catcher" = some (some (.ref f_law_catcher)))
    (l_law_catcher : K.lookup f_law_catcher = some ⟨oc_law_catcher, od_law_catcher, .func (PySem.W.fnOf "_law_catcher" "_law_catcher" (defArgs s_law_catcher) (defBody s_law_catcher) (defScope s_law_catcher) .none kV_law_catcher dc_law_catcher pm_law_catcher an_law_catcher cd_law_catcher ct_law_catcher), sl_law_catcher⟩)
    (c_law_catcher : PySem.W.codeIn K cd_law_catcher "_law_catcher" = true)
    (k_law_catcher : PySem.W.keepIn K (.ref f_law_catcher) = true)
    (a_law_waits : PySem.W.nsIn K mainGlobals "_law_waits" = some (some (.ref f_law_waits)))
    (l_law_waits : K.lookup f_law_waits = some ⟨oc_law_waits, od_law_waits, .func (PySem.W.fnOf "_law_waits" "_law_waits" (defArgs s_law_waits) (defBody s_law_waits) (defScope s_law_waits) .none kV_law_waits dc_law_waits pm_law_waits an_law_waits cd_law_waits ct_law_waits), sl_law_waits⟩)
    (c_law_waits : PySem.W.codeIn K cd_law_waits "_law_waits" = true)
    (k_law_waits : PySem.W.keepIn K (.ref f_law_waits) = true)
    (a_law_alive : PySem.W.nsIn K mainGlobals "_law_alive" = some (some (.ref f_law_alive)))
    (l_law_alive : K.lookup f_law_alive = some ⟨oc_law_alive, od_law_alive, .func (PySem.W.fnOf "_law_alive" "_law_alive" (defArgs s_law_alive) (defBody s_law_alive) (defScope s_law_alive) .none kV_law_alive dc_law_alive pm_law_alive an_law_alive cd_law_alive ct_law_alive), sl_law_alive⟩)
    (c_law_alive : PySem.W.codeIn K cd_law_alive "_law_alive" = true)
    (k_law_alive : PySem.W.keepIn K (.ref f_law_alive) = true)
    (a_law_same : PySem.W.nsIn K mainGlobals "_law_same" = some (some (.ref f_law_same)))
    (l_law_same : K.lookup f_law_same = some ⟨oc_law_same, od_law_same, .func (PySem.W.fnOf "_law_same" "_law_same" (defArgs s_law_same) (defBody s_law_same) (defScope s_law_same) .none kV_law_same dc_law_same pm_law_same an_law_same cd_law_same ct_law_same), sl_law_same⟩)
    (c_law_same : PySem.W.codeIn K cd_law_same "_law_same" = true)
    (k_law_same : PySem.W.keepIn K (.ref f_law_same) = true)
    (a_law_live_agrees : PySem.W.nsIn K mainGlobals "_law_live_agrees" = some (some (.ref f_law_live_agrees)))
    (l_law_live_agrees : K.lookup f_law_live_agrees = some ⟨oc_law_live_agrees, od_law_live_agrees, .func (PySem.W.fnOf "_law_live_agrees" "_law_live_agrees" (defArgs s_law_live_agrees) (defBody s_law_live_agrees) (defScope s_law_live_agrees) .none kV_law_live_agrees dc_law_live_agrees pm_law_live_agrees an_law_live_agrees cd_law_live_agrees ct_law_live_agrees), sl_law_live_agrees⟩)
    (c_law_live_agrees : PySem.W.codeIn K cd_law_live_agrees "_law_live_agrees" = true)
    (k_law_live_agrees : PySem.W.keepIn K (.ref f_law_live_agrees) = true)
    (a_law_waiting_agrees : PySem.W.nsIn K mainGlobals "_law_waiting_agrees" = some (some (.ref f_law_waiting_agrees)))
    (l_law_waiting_agrees : K.lookup f_law_waiting_agrees = some ⟨oc_law_waiting_agrees, od_law_waiting_agrees, .func (PySem.W.fnOf "_law_waiting_agrees" "_law_waiting_agrees" (defArgs s_law_waiting_agrees) (defBody s_law_waiting_agrees) (defScope s_law_waiting_agrees) .none kV_law_waiting_agrees dc_law_waiting_agrees pm_law_waiting_agrees an_law_waiting_agrees cd_law_waiting_agrees ct_law_waiting_agrees), sl_law_waiting_agrees⟩)
    (c_law_waiting_agrees : PySem.W.codeIn K cd_law_waiting_agrees "_law_waiting_agrees" = true)
    (k_law_waiting_agrees : PySem.W.keepIn K (.ref f_law_waiting_agrees) = true)
    (a_law : PySem.W.nsIn K mainGlobals "law" = some (some (.ref f_law)))
    (l_law : K.lookup f_law = some ⟨oc_law, od_law, .func (PySem.W.fnOf "law" "law" (defArgs s_law) (defBody s_law) (defScope s_law) .none kV_law dc_law pm_law an_law cd_law ct_law), sl_law⟩)
    (c_law : PySem.W.codeIn K cd_law "law" = true)
    (k_law : PySem.W.keepIn K (.ref f_law) = true)
    (n_all : PySem.W.nsIn K mainGlobals "all" = some none)
    (n_bool : PySem.W.nsIn K mainGlobals "bool" = some none)
    (n_int : PySem.W.nsIn K mainGlobals "int" = some none)
    (n_isinstance : PySem.W.nsIn K mainGlobals "isinstance" = some none)
    (n_len : PySem.W.nsIn K mainGlobals "len" = some none)
    (n_list : PySem.W.nsIn K mainGlobals "list" = some none)
    (n_range : PySem.W.nsIn K mainGlobals "range" = some none)
    (n_reversed : PySem.W.nsIn K mainGlobals "reversed" = some none)
    (n_sorted : PySem.W.nsIn K mainGlobals "sorted" = some none)
    (n_str : PySem.W.nsIn K mainGlobals "str" = some none)
    (n_sum : PySem.W.nsIn K mainGlobals "sum" = some none)
    (n_tuple : PySem.W.nsIn K mainGlobals "tuple" = some none)
    (wg_LISTS : PySem.W.nsIn K mainGlobals "LISTS" = some (some (.ref c_LISTS)))
    (wl_LISTS : K.lookup c_LISTS = some ⟨.type "dict", none, .dict es_LISTS ep_LISTS, #[]⟩)
    (wk_LISTS : PySem.W.KeysLit w.params es_LISTS.toList)
    (wo_LISTS : (c_LISTS == sysModules) = false)
    (wx_LISTS_0 : PySem.W.nsIn K c_LISTS "call" = some (some (.int 3 wq_LISTS_0)))
    (wx_LISTS_1 : PySem.W.nsIn K c_LISTS "callv" = some (some (.int 3 wq_LISTS_1)))
    (wx_LISTS_2 : PySem.W.nsIn K c_LISTS "method" = some (some (.int 4 wq_LISTS_2)))
    (wx_LISTS_3 : PySem.W.nsIn K c_LISTS "spawn" = some (some (.int 2 wq_LISTS_3)))
    (wx_LISTS_4 : PySem.W.nsIn K c_LISTS "const" = some none)
    (wx_LISTS_5 : PySem.W.nsIn K c_LISTS "move" = some none)
    (wx_LISTS_6 : PySem.W.nsIn K c_LISTS "op" = some none)
    (wx_LISTS_7 : PySem.W.nsIn K c_LISTS "not" = some none)
    (wx_LISTS_8 : PySem.W.nsIn K c_LISTS "jump" = some none)
    (wx_LISTS_9 : PySem.W.nsIn K c_LISTS "branch" = some none)
    (wx_LISTS_10 : PySem.W.nsIn K c_LISTS "getg" = some none)
    (wx_LISTS_11 : PySem.W.nsIn K c_LISTS "setg" = some none)
    (wx_LISTS_12 : PySem.W.nsIn K c_LISTS "new" = some none)
    (wx_LISTS_13 : PySem.W.nsIn K c_LISTS "get" = some none)
    (wx_LISTS_14 : PySem.W.nsIn K c_LISTS "put" = some none)
    (wx_LISTS_15 : PySem.W.nsIn K c_LISTS "drop" = some none)
    (wx_LISTS_16 : PySem.W.nsIn K c_LISTS "array" = some none)
    (wx_LISTS_17 : PySem.W.nsIn K c_LISTS "at" = some none)
    (wx_LISTS_18 : PySem.W.nsIn K c_LISTS "setat" = some none)
    (wx_LISTS_19 : PySem.W.nsIn K c_LISTS "len" = some none)
    (wx_LISTS_20 : PySem.W.nsIn K c_LISTS "return" = some none)
    (wx_LISTS_21 : PySem.W.nsIn K c_LISTS "say" = some none)
    (wx_LISTS_22 : PySem.W.nsIn K c_LISTS "fail" = some none)
    (wx_LISTS_23 : PySem.W.nsIn K c_LISTS "load" = some none)
    (wx_LISTS_24 : PySem.W.nsIn K c_LISTS "pause" = some none)
    (wg_READS : PySem.W.nsIn K mainGlobals "READS" = some (some (.ref c_READS)))
    (wl_READS : K.lookup c_READS = some ⟨.type "dict", none, .dict es_READS ep_READS, #[]⟩)
    (wk_READS : PySem.W.KeysLit w.params es_READS.toList)
    (wo_READS : (c_READS == sysModules) = false)
    (wx_READS_0 : PySem.W.nsIn K c_READS "const" = some (some (.ref wt_READS_0)))
    (wy_READS_0 : K.lookup wt_READS_0 = some ⟨.type "tuple", wd_READS_0, .seq #[] wn_READS_0, ws_READS_0⟩)
    (wx_READS_1 : PySem.W.nsIn K c_READS "move" = some (some (.ref wt_READS_1)))
    (wy_READS_1 : K.lookup wt_READS_1 = some ⟨.type "tuple", wd_READS_1, .seq #[.int 2 wq_READS_1_0] wn_READS_1, ws_READS_1⟩)
    (wx_READS_2 : PySem.W.nsIn K c_READS "op" = some (some (.ref wt_READS_2)))
    (wy_READS_2 : K.lookup wt_READS_2 = some ⟨.type "tuple", wd_READS_2, .seq #[.int 3 wq_READS_2_0, .int 4 wq_READS_2_1] wn_READS_2, ws_READS_2⟩)
    (wx_READS_3 : PySem.W.nsIn K c_READS "not" = some (some (.ref wt_READS_3)))
    (wy_READS_3 : K.lookup wt_READS_3 = some ⟨.type "tuple", wd_READS_3, .seq #[.int 2 wq_READS_3_0] wn_READS_3, ws_READS_3⟩)
    (wx_READS_4 : PySem.W.nsIn K c_READS "jump" = some (some (.ref wt_READS_4)))
    (wy_READS_4 : K.lookup wt_READS_4 = some ⟨.type "tuple", wd_READS_4, .seq #[] wn_READS_4, ws_READS_4⟩)
    (wx_READS_5 : PySem.W.nsIn K c_READS "branch" = some (some (.ref wt_READS_5)))
    (wy_READS_5 : K.lookup wt_READS_5 = some ⟨.type "tuple", wd_READS_5, .seq #[.int 1 wq_READS_5_0] wn_READS_5, ws_READS_5⟩)
    (wx_READS_6 : PySem.W.nsIn K c_READS "getg" = some (some (.ref wt_READS_6)))
    (wy_READS_6 : K.lookup wt_READS_6 = some ⟨.type "tuple", wd_READS_6, .seq #[] wn_READS_6, ws_READS_6⟩)
    (wx_READS_7 : PySem.W.nsIn K c_READS "setg" = some (some (.ref wt_READS_7)))
    (wy_READS_7 : K.lookup wt_READS_7 = some ⟨.type "tuple", wd_READS_7, .seq #[.int 2 wq_READS_7_0] wn_READS_7, ws_READS_7⟩)
    (wx_READS_8 : PySem.W.nsIn K c_READS "new" = some (some (.ref wt_READS_8)))
    (wy_READS_8 : K.lookup wt_READS_8 = some ⟨.type "tuple", wd_READS_8, .seq #[] wn_READS_8, ws_READS_8⟩)
    (wx_READS_9 : PySem.W.nsIn K c_READS "get" = some (some (.ref wt_READS_9)))
    (wy_READS_9 : K.lookup wt_READS_9 = some ⟨.type "tuple", wd_READS_9, .seq #[.int 2 wq_READS_9_0] wn_READS_9, ws_READS_9⟩)
    (wx_READS_10 : PySem.W.nsIn K c_READS "put" = some (some (.ref wt_READS_10)))
    (wy_READS_10 : K.lookup wt_READS_10 = some ⟨.type "tuple", wd_READS_10, .seq #[.int 1 wq_READS_10_0, .int 3 wq_READS_10_1] wn_READS_10, ws_READS_10⟩)
    (wx_READS_11 : PySem.W.nsIn K c_READS "drop" = some (some (.ref wt_READS_11)))
    (wy_READS_11 : K.lookup wt_READS_11 = some ⟨.type "tuple", wd_READS_11, .seq #[.int 1 wq_READS_11_0] wn_READS_11, ws_READS_11⟩)
    (wx_READS_12 : PySem.W.nsIn K c_READS "array" = some (some (.ref wt_READS_12)))
    (wy_READS_12 : K.lookup wt_READS_12 = some ⟨.type "tuple", wd_READS_12, .seq #[.int 2 wq_READS_12_0] wn_READS_12, ws_READS_12⟩)
    (wx_READS_13 : PySem.W.nsIn K c_READS "at" = some (some (.ref wt_READS_13)))
    (wy_READS_13 : K.lookup wt_READS_13 = some ⟨.type "tuple", wd_READS_13, .seq #[.int 2 wq_READS_13_0, .int 3 wq_READS_13_1] wn_READS_13, ws_READS_13⟩)
    (wx_READS_14 : PySem.W.nsIn K c_READS "setat" = some (some (.ref wt_READS_14)))
    (wy_READS_14 : K.lookup wt_READS_14 = some ⟨.type "tuple", wd_READS_14, .seq #[.int 1 wq_READS_14_0, .int 2 wq_READS_14_1, .int 3 wq_READS_14_2] wn_READS_14, ws_READS_14⟩)
    (wx_READS_15 : PySem.W.nsIn K c_READS "len" = some (some (.ref wt_READS_15)))
    (wy_READS_15 : K.lookup wt_READS_15 = some ⟨.type "tuple", wd_READS_15, .seq #[.int 2 wq_READS_15_0] wn_READS_15, ws_READS_15⟩)
    (wx_READS_16 : PySem.W.nsIn K c_READS "call" = some (some (.ref wt_READS_16)))
    (wy_READS_16 : K.lookup wt_READS_16 = some ⟨.type "tuple", wd_READS_16, .seq #[] wn_READS_16, ws_READS_16⟩)
    (wx_READS_17 : PySem.W.nsIn K c_READS "callv" = some (some (.ref wt_READS_17)))
    (wy_READS_17 : K.lookup wt_READS_17 = some ⟨.type "tuple", wd_READS_17, .seq #[.int 2 wq_READS_17_0] wn_READS_17, ws_READS_17⟩)
    (wx_READS_18 : PySem.W.nsIn K c_READS "method" = some (some (.ref wt_READS_18)))
    (wy_READS_18 : K.lookup wt_READS_18 = some ⟨.type "tuple", wd_READS_18, .seq #[.int 2 wq_READS_18_0] wn_READS_18, ws_READS_18⟩)
    (wx_READS_19 : PySem.W.nsIn K c_READS "return" = some (some (.ref wt_READS_19)))
    (wy_READS_19 : K.lookup wt_READS_19 = some ⟨.type "tuple", wd_READS_19, .seq #[.int 1 wq_READS_19_0] wn_READS_19, ws_READS_19⟩)
    (wx_READS_20 : PySem.W.nsIn K c_READS "say" = some (some (.ref wt_READS_20)))
    (wy_READS_20 : K.lookup wt_READS_20 = some ⟨.type "tuple", wd_READS_20, .seq #[.int 1 wq_READS_20_0] wn_READS_20, ws_READS_20⟩)
    (wx_READS_21 : PySem.W.nsIn K c_READS "fail" = some (some (.ref wt_READS_21)))
    (wy_READS_21 : K.lookup wt_READS_21 = some ⟨.type "tuple", wd_READS_21, .seq #[.int 1 wq_READS_21_0] wn_READS_21, ws_READS_21⟩)
    (wx_READS_22 : PySem.W.nsIn K c_READS "load" = some (some (.ref wt_READS_22)))
    (wy_READS_22 : K.lookup wt_READS_22 = some ⟨.type "tuple", wd_READS_22, .seq #[.int 1 wq_READS_22_0] wn_READS_22, ws_READS_22⟩)
    (wx_READS_23 : PySem.W.nsIn K c_READS "spawn" = some (some (.ref wt_READS_23)))
    (wy_READS_23 : K.lookup wt_READS_23 = some ⟨.type "tuple", wd_READS_23, .seq #[] wn_READS_23, ws_READS_23⟩)
    (wx_READS_24 : PySem.W.nsIn K c_READS "pause" = some (some (.ref wt_READS_24)))
    (wy_READS_24 : K.lookup wt_READS_24 = some ⟨.type "tuple", wd_READS_24, .seq #[] wn_READS_24, ws_READS_24⟩)
    (wg_WRITES : PySem.W.nsIn K mainGlobals "WRITES" = some (some (.ref c_WRITES)))
    (wl_WRITES : K.lookup c_WRITES = some ⟨.type "dict", none, .dict es_WRITES ep_WRITES, #[]⟩)
    (wk_WRITES : PySem.W.KeysLit w.params es_WRITES.toList)
    (wo_WRITES : (c_WRITES == sysModules) = false)
    (wx_WRITES_0 : PySem.W.nsIn K c_WRITES "const" = some (some (.int 1 wq_WRITES_0)))
    (wx_WRITES_1 : PySem.W.nsIn K c_WRITES "move" = some (some (.int 1 wq_WRITES_1)))
    (wx_WRITES_2 : PySem.W.nsIn K c_WRITES "op" = some (some (.int 2 wq_WRITES_2)))
    (wx_WRITES_3 : PySem.W.nsIn K c_WRITES "not" = some (some (.int 1 wq_WRITES_3)))
    (wx_WRITES_4 : PySem.W.nsIn K c_WRITES "getg" = some (some (.int 1 wq_WRITES_4)))
    (wx_WRITES_5 : PySem.W.nsIn K c_WRITES "new" = some (some (.int 1 wq_WRITES_5)))
    (wx_WRITES_6 : PySem.W.nsIn K c_WRITES "get" = some (some (.int 1 wq_WRITES_6)))
    (wx_WRITES_7 : PySem.W.nsIn K c_WRITES "array" = some (some (.int 1 wq_WRITES_7)))
    (wx_WRITES_8 : PySem.W.nsIn K c_WRITES "at" = some (some (.int 1 wq_WRITES_8)))
    (wx_WRITES_9 : PySem.W.nsIn K c_WRITES "len" = some (some (.int 1 wq_WRITES_9)))
    (wx_WRITES_10 : PySem.W.nsIn K c_WRITES "call" = some (some (.int 1 wq_WRITES_10)))
    (wx_WRITES_11 : PySem.W.nsIn K c_WRITES "callv" = some (some (.int 1 wq_WRITES_11)))
    (wx_WRITES_12 : PySem.W.nsIn K c_WRITES "method" = some (some (.int 1 wq_WRITES_12)))
    (wx_WRITES_13 : PySem.W.nsIn K c_WRITES "jump" = some none)
    (wx_WRITES_14 : PySem.W.nsIn K c_WRITES "branch" = some none)
    (wx_WRITES_15 : PySem.W.nsIn K c_WRITES "setg" = some none)
    (wx_WRITES_16 : PySem.W.nsIn K c_WRITES "put" = some none)
    (wx_WRITES_17 : PySem.W.nsIn K c_WRITES "drop" = some none)
    (wx_WRITES_18 : PySem.W.nsIn K c_WRITES "setat" = some none)
    (wx_WRITES_19 : PySem.W.nsIn K c_WRITES "return" = some none)
    (wx_WRITES_20 : PySem.W.nsIn K c_WRITES "say" = some none)
    (wx_WRITES_21 : PySem.W.nsIn K c_WRITES "fail" = some none)
    (wx_WRITES_22 : PySem.W.nsIn K c_WRITES "load" = some none)
    (wx_WRITES_23 : PySem.W.nsIn K c_WRITES "spawn" = some none)
    (wx_WRITES_24 : PySem.W.nsIn K c_WRITES "pause" = some none)
    : ∃ fd : FuncData, (∀ (s : Shared) (v : Value), BindsTo s fd ⟨[v], []⟩ [("script", v)]) ∧ ∀ base : Heap, K.In base → base.Ns mainGlobals mg → FnOk l.prog w K mg base CX0 8 fa fd ["script"] (sp_law K) := by
  have e := hfa.symm.trans (PySem.W.mg_of X G a_law)
  cases e
  have F_handler_at := fun_mk (st := s_handler_at) l_handler_at c_handler_at k_handler_at
  have F_slots_read := fun_mk (st := s_slots_read) l_slots_read c_slots_read k_slots_read
  have F_target := fun_mk (st := s_target) l_target c_target k_target
  have F_following := fun_mk (st := s_following) l_following c_following k_following
  have F_live := fun_mk (st := s_live) l_live c_live k_live
  have F_waiting := fun_mk (st := s_waiting) l_waiting c_waiting k_waiting
  have F_slots_in := fun_mk (st := s_slots_in) l_slots_in c_slots_in k_slots_in
  have F_mask_of := fun_mk (st := s_mask_of) l_mask_of c_mask_of k_mask_of
  have F_without_slot := fun_mk (st := s_without_slot) l_without_slot c_without_slot k_without_slot
  have F_live_masks := fun_mk (st := s_live_masks) l_live_masks c_live_masks k_live_masks
  have F_solved_masks := fun_mk (st := s_solved_masks) l_solved_masks c_solved_masks k_solved_masks
  have F_waiting_mask := fun_mk (st := s_waiting_mask) l_waiting_mask c_waiting_mask k_waiting_mask
  have F_Code_init := fun_mk (st := s_Code_init) l_Code_init c_Code_init k_Code_init
  have F_law_box := fun_mk (st := s_law_box) l_law_box c_law_box k_law_box
  have F_law_draw := fun_mk (st := s_law_draw) l_law_draw c_law_draw k_law_draw
  have F_law_reserved := fun_mk (st := s_law_reserved) l_law_reserved c_law_reserved k_law_reserved
  have F_law_word := fun_mk (st := s_law_word) l_law_word c_law_word k_law_word
  have F_law_value := fun_mk (st := s_law_value) l_law_value c_law_value k_law_value
  have F_law_row := fun_mk (st := s_law_row) l_law_row c_law_row k_law_row
  have F_law_words := fun_mk (st := s_law_words) l_law_words c_law_words k_law_words
  have F_law_drawn := fun_mk (st := s_law_drawn) l_law_drawn c_law_drawn k_law_drawn
  have F_law_read := fun_mk (st := s_law_read) l_law_read c_law_read k_law_read
  have F_law_written := fun_mk (st := s_law_written) l_law_written c_law_written k_law_written
  have F_law_later := fun_mk (st := s_law_later) l_law_later c_law_later k_law_later
  have F_law_catcher := fun_mk (st := s_law_catcher) l_law_catcher c_law_catcher k_law_catcher
  have F_law_waits := fun_mk (st := s_law_waits) l_law_waits c_law_waits k_law_waits
  have F_law_alive := fun_mk (st := s_law_alive) l_law_alive c_law_alive k_law_alive
  have F_law_same := fun_mk (st := s_law_same) l_law_same c_law_same k_law_same
  have F_law_live_agrees := fun_mk (st := s_law_live_agrees) l_law_live_agrees c_law_live_agrees k_law_live_agrees
  have F_law_waiting_agrees := fun_mk (st := s_law_waiting_agrees) l_law_waiting_agrees c_law_waiting_agrees k_law_waiting_agrees
  have F_law := fun_mk (st := s_law) l_law c_law k_law
  have T : Txt K w mg ⟨f_handler_at, PySem.W.fnOf "handler_at" "handler_at" (defArgs s_handler_at) (defBody s_handler_at) (defScope s_handler_at) .none kV_handler_at dc_handler_at pm_handler_at an_handler_at cd_handler_at ct_handler_at, f_slots_read, PySem.W.fnOf "slots_read" "slots_read" (defArgs s_slots_read) (defBody s_slots_read) (defScope s_slots_read) .none kV_slots_read dc_slots_read pm_slots_read an_slots_read cd_slots_read ct_slots_read, f_target, PySem.W.fnOf "target" "target" (defArgs s_target) (defBody s_target) (defScope s_target) .none kV_target dc_target pm_target an_target cd_target ct_target, f_following, PySem.W.fnOf "following" "following" (defArgs s_following) (defBody s_following) (defScope s_following) .none kV_following dc_following pm_following an_following cd_following ct_following, f_live, PySem.W.fnOf "live" "live" (defArgs s_live) (defBody s_live) (defScope s_live) .none kV_live dc_live pm_live an_live cd_live ct_live, f_waiting, PySem.W.fnOf "waiting" "waiting" (defArgs s_waiting) (defBody s_waiting) (defScope s_waiting) .none kV_waiting dc_waiting pm_waiting an_waiting cd_waiting ct_waiting, f_slots_in, PySem.W.fnOf "slots_in" "slots_in" (defArgs s_slots_in) (defBody s_slots_in) (defScope s_slots_in) .none kV_slots_in dc_slots_in pm_slots_in an_slots_in cd_slots_in ct_slots_in, f_mask_of, PySem.W.fnOf "mask_of" "mask_of" (defArgs s_mask_of) (defBody s_mask_of) (defScope s_mask_of) .none kV_mask_of dc_mask_of pm_mask_of an_mask_of cd_mask_of ct_mask_of, f_without_slot, PySem.W.fnOf "without_slot" "without_slot" (defArgs s_without_slot) (defBody s_without_slot) (defScope s_without_slot) .none kV_without_slot dc_without_slot pm_without_slot an_without_slot cd_without_slot ct_without_slot, f_live_masks, PySem.W.fnOf "live_masks" "live_masks" (defArgs s_live_masks) (defBody s_live_masks) (defScope s_live_masks) .none kV_live_masks dc_live_masks pm_live_masks an_live_masks cd_live_masks ct_live_masks, f_solved_masks, PySem.W.fnOf "solved_masks" "solved_masks" (defArgs s_solved_masks) (defBody s_solved_masks) (defScope s_solved_masks) .none kV_solved_masks dc_solved_masks pm_solved_masks an_solved_masks cd_solved_masks ct_solved_masks, f_waiting_mask, PySem.W.fnOf "waiting_mask" "waiting_mask" (defArgs s_waiting_mask) (defBody s_waiting_mask) (defScope s_waiting_mask) .none kV_waiting_mask dc_waiting_mask pm_waiting_mask an_waiting_mask cd_waiting_mask ct_waiting_mask, f_Code_init, PySem.W.fnOf "__init__" "Code.__init__" (defArgs s_Code_init) (defBody s_Code_init) (defScope s_Code_init) .none kV_Code_init dc_Code_init pm_Code_init an_Code_init cd_Code_init ct_Code_init, f_law_box, PySem.W.fnOf "_law_box" "_law_box" (defArgs s_law_box) (defBody s_law_box) (defScope s_law_box) .none kV_law_box dc_law_box pm_law_box an_law_box cd_law_box ct_law_box, f_law_draw, PySem.W.fnOf "_law_draw" "_law_draw" (defArgs s_law_draw) (defBody s_law_draw) (defScope s_law_draw) .none kV_law_draw dc_law_draw pm_law_draw an_law_draw cd_law_draw ct_law_draw, f_law_reserved, PySem.W.fnOf "_law_reserved" "_law_reserved" (defArgs s_law_reserved) (defBody s_law_reserved) (defScope s_law_reserved) .none kV_law_reserved dc_law_reserved pm_law_reserved an_law_reserved cd_law_reserved ct_law_reserved, f_law_word, PySem.W.fnOf "_law_word" "_law_word" (defArgs s_law_word) (defBody s_law_word) (defScope s_law_word) .none kV_law_word dc_law_word pm_law_word an_law_word cd_law_word ct_law_word, f_law_value, PySem.W.fnOf "_law_value" "_law_value" (defArgs s_law_value) (defBody s_law_value) (defScope s_law_value) .none kV_law_value dc_law_value pm_law_value an_law_value cd_law_value ct_law_value, f_law_row, PySem.W.fnOf "_law_row" "_law_row" (defArgs s_law_row) (defBody s_law_row) (defScope s_law_row) .none kV_law_row dc_law_row pm_law_row an_law_row cd_law_row ct_law_row, f_law_words, PySem.W.fnOf "_law_words" "_law_words" (defArgs s_law_words) (defBody s_law_words) (defScope s_law_words) .none kV_law_words dc_law_words pm_law_words an_law_words cd_law_words ct_law_words, f_law_drawn, PySem.W.fnOf "_law_drawn" "_law_drawn" (defArgs s_law_drawn) (defBody s_law_drawn) (defScope s_law_drawn) .none kV_law_drawn dc_law_drawn pm_law_drawn an_law_drawn cd_law_drawn ct_law_drawn, f_law_read, PySem.W.fnOf "_law_read" "_law_read" (defArgs s_law_read) (defBody s_law_read) (defScope s_law_read) .none kV_law_read dc_law_read pm_law_read an_law_read cd_law_read ct_law_read, f_law_written, PySem.W.fnOf "_law_written" "_law_written" (defArgs s_law_written) (defBody s_law_written) (defScope s_law_written) .none kV_law_written dc_law_written pm_law_written an_law_written cd_law_written ct_law_written, f_law_later, PySem.W.fnOf "_law_later" "_law_later" (defArgs s_law_later) (defBody s_law_later) (defScope s_law_later) .none kV_law_later dc_law_later pm_law_later an_law_later cd_law_later ct_law_later, f_law_catcher, PySem.W.fnOf "_law_catcher" "_law_catcher" (defArgs s_law_catcher) (defBody s_law_catcher) (defScope s_law_catcher) .none kV_law_catcher dc_law_catcher pm_law_catcher an_law_catcher cd_law_catcher ct_law_catcher, f_law_waits, PySem.W.fnOf "_law_waits" "_law_waits" (defArgs s_law_waits) (defBody s_law_waits) (defScope s_law_waits) .none kV_law_waits dc_law_waits pm_law_waits an_law_waits cd_law_waits ct_law_waits, f_law_alive, PySem.W.fnOf "_law_alive" "_law_alive" (defArgs s_law_alive) (defBody s_law_alive) (defScope s_law_alive) .none kV_law_alive dc_law_alive pm_law_alive an_law_alive cd_law_alive ct_law_alive, f_law_same, PySem.W.fnOf "_law_same" "_law_same" (defArgs s_law_same) (defBody s_law_same) (defScope s_law_same) .none kV_law_same dc_law_same pm_law_same an_law_same cd_law_same ct_law_same, f_law_live_agrees, PySem.W.fnOf "_law_live_agrees" "_law_live_agrees" (defArgs s_law_live_agrees) (defBody s_law_live_agrees) (defScope s_law_live_agrees) .none kV_law_live_agrees dc_law_live_agrees pm_law_live_agrees an_law_live_agrees cd_law_live_agrees ct_law_live_agrees, f_law_waiting_agrees, PySem.W.fnOf "_law_waiting_agrees" "_law_waiting_agrees" (defArgs s_law_waiting_agrees) (defBody s_law_waiting_agrees) (defScope s_law_waiting_agrees) .none kV_law_waiting_agrees dc_law_waiting_agrees pm_law_waiting_agrees an_law_waiting_agrees cd_law_waiting_agrees ct_law_waiting_agrees, fa, PySem.W.fnOf "law" "law" (defArgs s_law) (defBody s_law) (defScope s_law) .none kV_law dc_law pm_law an_law cd_law ct_law, C_Code, c_LISTS, c_READS, c_WRITES⟩ := {
    g_handler_at := PySem.W.mg_of X G a_handler_at
    F_handler_at := F_handler_at
    b_handler_at := F_handler_at.binds (ps := ["code", "pc"]) fun _ _ _ _ _ _ us hl => match us, hl with | [_, _], _ => rfl
    g_slots_read := PySem.W.mg_of X G a_slots_read
    F_slots_read := F_slots_read
    b_slots_read := F_slots_read.binds (ps := ["row"]) fun _ _ _ _ _ _ us hl => match us, hl with | [_], _ => rfl
    g_target := PySem.W.mg_of X G a_target
    F_target := F_target
    b_target := F_target.binds (ps := ["row"]) fun _ _ _ _ _ _ us hl => match us, hl with | [_], _ => rfl
    g_following := PySem.W.mg_of X G a_following
    F_following := F_following
    b_following := F_following.binds (ps := ["code", "pc"]) fun _ _ _ _ _ _ us hl => match us, hl with | [_, _], _ => rfl
    g_live := PySem.W.mg_of X G a_live
    F_live := F_live
    b_live := F_live.binds (ps := ["code"]) fun _ _ _ _ _ _ us hl => match us, hl with | [_], _ => rfl
    g_waiting := PySem.W.mg_of X G a_waiting
    F_waiting := F_waiting
    b_waiting := F_waiting.binds (ps := ["code", "pc"]) fun _ _ _ _ _ _ us hl => match us, hl with | [_, _], _ => rfl
    g_slots_in := PySem.W.mg_of X G a_slots_in
    F_slots_in := F_slots_in
    b_slots_in := F_slots_in.binds (ps := ["mask"]) fun _ _ _ _ _ _ us hl => match us, hl with | [_], _ => rfl
    g_mask_of := PySem.W.mg_of X G a_mask_of
    F_mask_of := F_mask_of
    b_mask_of := F_mask_of.binds (ps := ["slots"]) fun _ _ _ _ _ _ us hl => match us, hl with | [_], _ => rfl
    g_without_slot := PySem.W.mg_of X G a_without_slot
    F_without_slot := F_without_slot
    b_without_slot := F_without_slot.binds (ps := ["mask", "slot"]) fun _ _ _ _ _ _ us hl => match us, hl with | [_, _], _ => rfl
    g_live_masks := PySem.W.mg_of X G a_live_masks
    F_live_masks := F_live_masks
    b_live_masks := F_live_masks.binds (ps := ["code"]) fun _ _ _ _ _ _ us hl => match us, hl with | [_], _ => rfl
    g_solved_masks := PySem.W.mg_of X G a_solved_masks
    F_solved_masks := F_solved_masks
    b_solved_masks := F_solved_masks.binds (ps := ["code"]) fun _ _ _ _ _ _ us hl => match us, hl with | [_], _ => rfl
    g_waiting_mask := PySem.W.mg_of X G a_waiting_mask
    F_waiting_mask := F_waiting_mask
    b_waiting_mask := F_waiting_mask.binds (ps := ["code", "masks", "pc"]) fun _ _ _ _ _ _ us hl => match us, hl with | [_, _, _], _ => rfl
    F_Code_init := F_Code_init
    b_Code_init := F_Code_init.binds (ps := ["self", "name", "params", "size", "rows", "handlers"]) fun _ _ _ _ _ _ us hl => match us, hl with | [_, _, _, _, _, _], _ => rfl
    g_law_box := PySem.W.mg_of X G a_law_box
    F_law_box := F_law_box
    b_law_box := F_law_box.binds (ps := ["script"]) fun _ _ _ _ _ _ us hl => match us, hl with | [_], _ => rfl
    g_law_draw := PySem.W.mg_of X G a_law_draw
    F_law_draw := F_law_draw
    b_law_draw := F_law_draw.binds (ps := ["box", "many"]) fun _ _ _ _ _ _ us hl => match us, hl with | [_, _], _ => rfl
    g_law_reserved := PySem.W.mg_of X G a_law_reserved
    F_law_reserved := F_law_reserved
    b_law_reserved := F_law_reserved.binds (ps := []) fun _ _ _ _ _ _ us hl => match us, hl with | [], _ => rfl
    g_law_word := PySem.W.mg_of X G a_law_word
    F_law_word := F_law_word
    b_law_word := F_law_word.binds (ps := ["box", "known"]) fun _ _ _ _ _ _ us hl => match us, hl with | [_, _], _ => rfl
    g_law_value := PySem.W.mg_of X G a_law_value
    F_law_value := F_law_value
    b_law_value := F_law_value.binds (ps := ["box", "known"]) fun _ _ _ _ _ _ us hl => match us, hl with | [_, _], _ => rfl
    g_law_row := PySem.W.mg_of X G a_law_row
    F_law_row := F_law_row
    b_law_row := F_law_row.binds (ps := ["box", "word", "many", "size", "known"]) fun _ _ _ _ _ _ us hl => match us, hl with | [_, _, _, _, _], _ => rfl
    g_law_words := PySem.W.mg_of X G a_law_words
    F_law_words := F_law_words
    b_law_words := F_law_words.binds (ps := []) fun _ _ _ _ _ _ us hl => match us, hl with | [], _ => rfl
    g_law_drawn := PySem.W.mg_of X G a_law_drawn
    F_law_drawn := F_law_drawn
    b_law_drawn := F_law_drawn.binds (ps := ["box", "known"]) fun _ _ _ _ _ _ us hl => match us, hl with | [_, _], _ => rfl
    g_law_read := PySem.W.mg_of X G a_law_read
    F_law_read := F_law_read
    b_law_read := F_law_read.binds (ps := ["row"]) fun _ _ _ _ _ _ us hl => match us, hl with | [_], _ => rfl
    g_law_written := PySem.W.mg_of X G a_law_written
    F_law_written := F_law_written
    b_law_written := F_law_written.binds (ps := ["row"]) fun _ _ _ _ _ _ us hl => match us, hl with | [_], _ => rfl
    g_law_later := PySem.W.mg_of X G a_law_later
    F_law_later := F_law_later
    b_law_later := F_law_later.binds (ps := ["rows", "at"]) fun _ _ _ _ _ _ us hl => match us, hl with | [_, _], _ => rfl
    g_law_catcher := PySem.W.mg_of X G a_law_catcher
    F_law_catcher := F_law_catcher
    b_law_catcher := F_law_catcher.binds (ps := ["handlers", "at"]) fun _ _ _ _ _ _ us hl => match us, hl with | [_, _], _ => rfl
    g_law_waits := PySem.W.mg_of X G a_law_waits
    F_law_waits := F_law_waits
    b_law_waits := F_law_waits.binds (ps := ["alive", "drawn", "at"]) fun _ _ _ _ _ _ us hl => match us, hl with | [_, _, _], _ => rfl
    g_law_alive := PySem.W.mg_of X G a_law_alive
    F_law_alive := F_law_alive
    b_law_alive := F_law_alive.binds (ps := ["drawn"]) fun _ _ _ _ _ _ us hl => match us, hl with | [_], _ => rfl
    g_law_same := PySem.W.mg_of X G a_law_same
    F_law_same := F_law_same
    b_law_same := F_law_same.binds (ps := ["value", "due"]) fun _ _ _ _ _ _ us hl => match us, hl with | [_, _], _ => rfl
    g_law_live_agrees := PySem.W.mg_of X G a_law_live_agrees
    F_law_live_agrees := F_law_live_agrees
    b_law_live_agrees := F_law_live_agrees.binds (ps := ["code", "alive"]) fun _ _ _ _ _ _ us hl => match us, hl with | [_, _], _ => rfl
    g_law_waiting_agrees := PySem.W.mg_of X G a_law_waiting_agrees
    F_law_waiting_agrees := F_law_waiting_agrees
    b_law_waiting_agrees := F_law_waiting_agrees.binds (ps := ["code", "drawn", "alive", "asked"]) fun _ _ _ _ _ _ us hl => match us, hl with | [_, _, _, _], _ => rfl
    g_law := PySem.W.mg_of X G a_law
    F_law := F_law
    b_law := F_law.binds (ps := ["script"]) fun _ _ _ _ _ _ us hl => match us, hl with | [_], _ => rfl
    gc_Code := PySem.W.mg_of X G gc_Code
    q_Code := ⟨pg_Code, hd_Code, po_Code, sa_Code⟩
    m_Code := ⟨mk_Code, a_Code_init, i_Code_init, kc_Code⟩
    na_Code_name := na_Code_name
    na_Code_params := na_Code_params
    na_Code_size := na_Code_size
    na_Code_rows := na_Code_rows
    na_Code_handlers := na_Code_handlers
    na_Code_known_live := na_Code_known_live
    n_all := PySem.W.mg_none_of X G n_all
    n_bool := PySem.W.mg_none_of X G n_bool
    n_int := PySem.W.mg_none_of X G n_int
    n_isinstance := PySem.W.mg_none_of X G n_isinstance
    n_len := PySem.W.mg_none_of X G n_len
    n_list := PySem.W.mg_none_of X G n_list
    n_range := PySem.W.mg_none_of X G n_range
    n_reversed := PySem.W.mg_none_of X G n_reversed
    n_sorted := PySem.W.mg_none_of X G n_sorted
    n_str := PySem.W.mg_none_of X G n_str
    n_sum := PySem.W.mg_none_of X G n_sum
    n_tuple := PySem.W.mg_none_of X G n_tuple
    g_LISTS := PySem.W.mg_of X G wg_LISTS
    w_LISTS := ⟨_, _, wl_LISTS, wk_LISTS, wo_LISTS⟩
    x_LISTS := List.forall_mem_cons.2 ⟨wat_int wx_LISTS_0, List.forall_mem_cons.2 ⟨wat_int wx_LISTS_1, List.forall_mem_cons.2 ⟨wat_int wx_LISTS_2, List.forall_mem_cons.2 ⟨wat_int wx_LISTS_3, List.forall_mem_cons.2 ⟨wat_none wx_LISTS_4, List.forall_mem_cons.2 ⟨wat_none wx_LISTS_5, List.forall_mem_cons.2 ⟨wat_none wx_LISTS_6, List.forall_mem_cons.2 ⟨wat_none wx_LISTS_7, List.forall_mem_cons.2 ⟨wat_none wx_LISTS_8, List.forall_mem_cons.2 ⟨wat_none wx_LISTS_9, List.forall_mem_cons.2 ⟨wat_none wx_LISTS_10, List.forall_mem_cons.2 ⟨wat_none wx_LISTS_11, List.forall_mem_cons.2 ⟨wat_none wx_LISTS_12, List.forall_mem_cons.2 ⟨wat_none wx_LISTS_13, List.forall_mem_cons.2 ⟨wat_none wx_LISTS_14, List.forall_mem_cons.2 ⟨wat_none wx_LISTS_15, List.forall_mem_cons.2 ⟨wat_none wx_LISTS_16, List.forall_mem_cons.2 ⟨wat_none wx_LISTS_17, List.forall_mem_cons.2 ⟨wat_none wx_LISTS_18, List.forall_mem_cons.2 ⟨wat_none wx_LISTS_19, List.forall_mem_cons.2 ⟨wat_none wx_LISTS_20, List.forall_mem_cons.2 ⟨wat_none wx_LISTS_21, List.forall_mem_cons.2 ⟨wat_none wx_LISTS_22, List.forall_mem_cons.2 ⟨wat_none wx_LISTS_23, List.forall_mem_cons.2 ⟨wat_none wx_LISTS_24, List.forall_mem_nil _⟩⟩⟩⟩⟩⟩⟩⟩⟩⟩⟩⟩⟩⟩⟩⟩⟩⟩⟩⟩⟩⟩⟩⟩⟩
    g_READS := PySem.W.mg_of X G wg_READS
    w_READS := ⟨_, _, wl_READS, wk_READS, wo_READS⟩
    x_READS := List.forall_mem_cons.2 ⟨⟨wt_READS_0, wat_ref wx_READS_0, sqt_of wy_READS_0 (sz (by decide : 0 ≤ 100000)) .nil⟩, List.forall_mem_cons.2 ⟨⟨wt_READS_1, wat_ref wx_READS_1, sqt_of wy_READS_1 (sz (by decide : 1 ≤ 100000)) (.cons ⟨_, rfl⟩ .nil)⟩, List.forall_mem_cons.2 ⟨⟨wt_READS_2, wat_ref wx_READS_2, sqt_of wy_READS_2 (sz (by decide : 2 ≤ 100000)) (.cons ⟨_, rfl⟩ (.cons ⟨_, rfl⟩ .nil))⟩, List.forall_mem_cons.2 ⟨⟨wt_READS_3, wat_ref wx_READS_3, sqt_of wy_READS_3 (sz (by decide : 1 ≤ 100000)) (.cons ⟨_, rfl⟩ .nil)⟩, List.forall_mem_cons.2 ⟨⟨wt_READS_4, wat_ref wx_READS_4, sqt_of wy_READS_4 (sz (by decide : 0 ≤ 100000)) .nil⟩, List.forall_mem_cons.2 ⟨⟨wt_READS_5, wat_ref wx_READS_5, sqt_of wy_READS_5 (sz (by decide : 1 ≤ 100000)) (.cons ⟨_, rfl⟩ .nil)⟩, List.forall_mem_cons.2 ⟨⟨wt_READS_6, wat_ref wx_READS_6, sqt_of wy_READS_6 (sz (by decide : 0 ≤ 100000)) .nil⟩, List.forall_mem_cons.2 ⟨⟨wt_READS_7, wat_ref wx_READS_7, sqt_of wy_READS_7 (sz (by decide : 1 ≤ 100000)) (.cons ⟨_, rfl⟩ .nil)⟩, List.forall_mem_cons.2 ⟨⟨wt_READS_8, wat_ref wx_READS_8, sqt_of wy_READS_8 (sz (by decide : 0 ≤ 100000)) .nil⟩, List.forall_mem_cons.2 ⟨⟨wt_READS_9, wat_ref wx_READS_9, sqt_of wy_READS_9 (sz (by decide : 1 ≤ 100000)) (.cons ⟨_, rfl⟩ .nil)⟩, List.forall_mem_cons.2 ⟨⟨wt_READS_10, wat_ref wx_READS_10, sqt_of wy_READS_10 (sz (by decide : 2 ≤ 100000)) (.cons ⟨_, rfl⟩ (.cons ⟨_, rfl⟩ .nil))⟩, List.forall_mem_cons.2 ⟨⟨wt_READS_11, wat_ref wx_READS_11, sqt_of wy_READS_11 (sz (by decide : 1 ≤ 100000)) (.cons ⟨_, rfl⟩ .nil)⟩, List.forall_mem_cons.2 ⟨⟨wt_READS_12, wat_ref wx_READS_12, sqt_of wy_READS_12 (sz (by decide : 1 ≤ 100000)) (.cons ⟨_, rfl⟩ .nil)⟩, List.forall_mem_cons.2 ⟨⟨wt_READS_13, wat_ref wx_READS_13, sqt_of wy_READS_13 (sz (by decide : 2 ≤ 100000)) (.cons ⟨_, rfl⟩ (.cons ⟨_, rfl⟩ .nil))⟩, List.forall_mem_cons.2 ⟨⟨wt_READS_14, wat_ref wx_READS_14, sqt_of wy_READS_14 (sz (by decide : 3 ≤ 100000)) (.cons ⟨_, rfl⟩ (.cons ⟨_, rfl⟩ (.cons ⟨_, rfl⟩ .nil)))⟩, List.forall_mem_cons.2 ⟨⟨wt_READS_15, wat_ref wx_READS_15, sqt_of wy_READS_15 (sz (by decide : 1 ≤ 100000)) (.cons ⟨_, rfl⟩ .nil)⟩, List.forall_mem_cons.2 ⟨⟨wt_READS_16, wat_ref wx_READS_16, sqt_of wy_READS_16 (sz (by decide : 0 ≤ 100000)) .nil⟩, List.forall_mem_cons.2 ⟨⟨wt_READS_17, wat_ref wx_READS_17, sqt_of wy_READS_17 (sz (by decide : 1 ≤ 100000)) (.cons ⟨_, rfl⟩ .nil)⟩, List.forall_mem_cons.2 ⟨⟨wt_READS_18, wat_ref wx_READS_18, sqt_of wy_READS_18 (sz (by decide : 1 ≤ 100000)) (.cons ⟨_, rfl⟩ .nil)⟩, List.forall_mem_cons.2 ⟨⟨wt_READS_19, wat_ref wx_READS_19, sqt_of wy_READS_19 (sz (by decide : 1 ≤ 100000)) (.cons ⟨_, rfl⟩ .nil)⟩, List.forall_mem_cons.2 ⟨⟨wt_READS_20, wat_ref wx_READS_20, sqt_of wy_READS_20 (sz (by decide : 1 ≤ 100000)) (.cons ⟨_, rfl⟩ .nil)⟩, List.forall_mem_cons.2 ⟨⟨wt_READS_21, wat_ref wx_READS_21, sqt_of wy_READS_21 (sz (by decide : 1 ≤ 100000)) (.cons ⟨_, rfl⟩ .nil)⟩, List.forall_mem_cons.2 ⟨⟨wt_READS_22, wat_ref wx_READS_22, sqt_of wy_READS_22 (sz (by decide : 1 ≤ 100000)) (.cons ⟨_, rfl⟩ .nil)⟩, List.forall_mem_cons.2 ⟨⟨wt_READS_23, wat_ref wx_READS_23, sqt_of wy_READS_23 (sz (by decide : 0 ≤ 100000)) .nil⟩, List.forall_mem_cons.2 ⟨⟨wt_READS_24, wat_ref wx_READS_24, sqt_of wy_READS_24 (sz (by decide : 0 ≤ 100000)) .nil⟩, List.forall_mem_nil _⟩⟩⟩⟩⟩⟩⟩⟩⟩⟩⟩⟩⟩⟩⟩⟩⟩⟩⟩⟩⟩⟩⟩⟩⟩
    g_WRITES := PySem.W.mg_of X G wg_WRITES
    w_WRITES := ⟨_, _, wl_WRITES, wk_WRITES, wo_WRITES⟩
    x_WRITES := List.forall_mem_cons.2 ⟨wat_int wx_WRITES_0, List.forall_mem_cons.2 ⟨wat_int wx_WRITES_1, List.forall_mem_cons.2 ⟨wat_int wx_WRITES_2, List.forall_mem_cons.2 ⟨wat_int wx_WRITES_3, List.forall_mem_cons.2 ⟨wat_int wx_WRITES_4, List.forall_mem_cons.2 ⟨wat_int wx_WRITES_5, List.forall_mem_cons.2 ⟨wat_int wx_WRITES_6, List.forall_mem_cons.2 ⟨wat_int wx_WRITES_7, List.forall_mem_cons.2 ⟨wat_int wx_WRITES_8, List.forall_mem_cons.2 ⟨wat_int wx_WRITES_9, List.forall_mem_cons.2 ⟨wat_int wx_WRITES_10, List.forall_mem_cons.2 ⟨wat_int wx_WRITES_11, List.forall_mem_cons.2 ⟨wat_int wx_WRITES_12, List.forall_mem_cons.2 ⟨wat_none wx_WRITES_13, List.forall_mem_cons.2 ⟨wat_none wx_WRITES_14, List.forall_mem_cons.2 ⟨wat_none wx_WRITES_15, List.forall_mem_cons.2 ⟨wat_none wx_WRITES_16, List.forall_mem_cons.2 ⟨wat_none wx_WRITES_17, List.forall_mem_cons.2 ⟨wat_none wx_WRITES_18, List.forall_mem_cons.2 ⟨wat_none wx_WRITES_19, List.forall_mem_cons.2 ⟨wat_none wx_WRITES_20, List.forall_mem_cons.2 ⟨wat_none wx_WRITES_21, List.forall_mem_cons.2 ⟨wat_none wx_WRITES_22, List.forall_mem_cons.2 ⟨wat_none wx_WRITES_23, List.forall_mem_cons.2 ⟨wat_none wx_WRITES_24, List.forall_mem_nil _⟩⟩⟩⟩⟩⟩⟩⟩⟩⟩⟩⟩⟩⟩⟩⟩⟩⟩⟩⟩⟩⟩⟩⟩⟩
  }
  exact ⟨_, fun s v => .of_eq rfl, fun base _ _ => ok_law T⟩
theorem walk {l : PySem.W.OpenLaw} {q : Program} {loose : List Str} {XP : (Str → Option Value) → Heap → Prop} {YP : World → Heap → Prop} {d : DefRec} {K : Params → PySem.W.Frag} (hn : l.most = some 63) (hdf : d.params.defaults = [])
    (hY : ∀ (w : World) (h : Heap), YP w h → (K w.params).In h)
    (F : ∀ (w : World) (mg : Str → Option Value) (fa : Addr) (h : Heap), (K w.params).In h → h.Ns mainGlobals mg → mg d.name = some (.ref fa) →
      ∃ fd : FuncData, (∀ (s : Shared) (u : Value), BindsTo s fd ⟨[u], []⟩ [("script", u)]) ∧ ∀ base : Heap, (K w.params).In base → base.Ns mainGlobals mg → FnOk l.prog w (K w.params) mg base CX0 8 fa fd ["script"] (sp_law (K w.params))) :
    PySem.W.WalkO q loose XP YP l.row.toRowW d [] (fun f vs => PySem.call f vs) :=
  L2.walk_of (n := 63) (k := 8) (x := "script") (CX := fun _ => CX0) (sp := fun w => sp_law (K w.params)) hn (by decide) hdf ⟨rfl, by decide, by decide⟩ hY F (fun w H a ns hl hO hS => law_start (K w.params) H a ns hl hO hS) fun _ _ _ _ _ z => z
end LW
end
end
open PySem PySem.W PyProof.Rows
set_option maxRecDepth 100000 in
set_option maxHeartbeats 0 in
theorem PySem.Challenge.cw_reforge_k08_live_slots_holds : PySem.Challenge.rw_reforge_k08_live_slots.Holds := by
  w_on; o_law; k_head; (case hw => w_witness2)
  k_fill
  refine LW.walk (l := PySem.Challenge.rw_reforge_k08_live_slots) rfl rfl (fun w h Y => PySem.W.kIn_of Y) ?F
  case F =>
    intro w mg fa h KX G hmg
    refine' LW.all_mk KX G hmg ?gc_Code ?pg_Code ?hd_Code ?po_Code ?sa_Code ?mk_Code ?kc_Code ?na_Code_name ?na_Code_params ?na_Code_size ?na_Code_rows ?na_Code_handlers ?na_Code_known_live ?a_handler_at ?l_handler_at ?c_handler_at ?k_handler_at ?a_slots_read ?l_slots_read ?c_slots_read ?k_slots_read ?a_target ?l_target ?c_target ?k_target ?a_following ?l_following ?c_following ?k_following ?a_live ?l_live ?c_live ?k_live ?a_waiting ?l_waiting ?c_waiting ?k_waiting ?a_slots_in ?l_slots_in ?c_slots_in ?k_slots_in ?a_mask_of ?l_mask_of ?c_mask_of ?k_mask_of ?a_without_slot ?l_without_slot ?c_without_slot ?k_without_slot ?a_live_masks ?l_live_masks ?c_live_masks ?k_live_masks ?a_solved_masks ?l_solved_masks ?c_solved_masks ?k_solved_masks ?a_waiting_mask ?l_waiting_mask ?c_waiting_mask ?k_waiting_mask ?a_Code_init ?i_Code_init ?l_Code_init ?c_Code_init ?k_Code_init ?a_law_box ?l_law_box ?c_law_box ?k_law_box ?a_law_draw ?l_law_draw ?c_law_draw ?k_law_draw ?a_law_reserved ?l_law_reserved ?c_law_reserved ?k_law_reserved ?a_law_word ?l_law_word ?c_law_word ?k_law_word ?a_law_value ?l_law_value ?c_law_value ?k_law_value ?a_law_row ?l_law_row ?c_law_row ?k_law_row ?a_law_words ?l_law_words ?c_law_words ?k_law_words ?a_law_drawn ?l_law_drawn ?c_law_drawn ?k_law_drawn ?a_law_read ?l_law_read ?c_law_read ?k_law_read ?a_law_written ?l_law_written ?c_law_written ?k_law_written ?a_law_later ?l_law_later ?c_law_later ?k_law_later ?a_law_catcher ?l_law_catcher ?c_law_catcher ?k_law_catcher ?a_law_waits ?l_law_waits ?c_law_waits ?k_law_waits ?a_law_alive ?l_law_alive ?c_law_alive ?k_law_alive ?a_law_same ?l_law_same ?c_law_same ?k_law_same ?a_law_live_agrees ?l_law_live_agrees ?c_law_live_agrees ?k_law_live_agrees ?a_law_waiting_agrees ?l_law_waiting_agrees ?c_law_waiting_agrees ?k_law_waiting_agrees ?a_law ?l_law ?c_law ?k_law ?n_all ?n_bool ?n_int ?n_isinstance ?n_len ?n_list ?n_range ?n_reversed ?n_sorted ?n_str ?n_sum ?n_tuple ?wg_LISTS ?wl_LISTS ?wk_LISTS ?wo_LISTS ?wx_LISTS_0 ?wx_LISTS_1 ?wx_LISTS_2 ?wx_LISTS_3 ?wx_LISTS_4 ?wx_LISTS_5 ?wx_LISTS_6 ?wx_LISTS_7 ?wx_LISTS_8 ?wx_LISTS_9 ?wx_LISTS_10 ?wx_LISTS_11 ?wx_LISTS_12 ?wx_LISTS_13 ?wx_LISTS_14 ?wx_LISTS_15 ?wx_LISTS_16 ?wx_LISTS_17 ?wx_LISTS_18 ?wx_LISTS_19 ?wx_LISTS_20 ?wx_LISTS_21 ?wx_LISTS_22 ?wx_LISTS_23 ?wx_LISTS_24 ?wg_READS ?wl_READS ?wk_READS ?wo_READS ?wx_READS_0 ?wy_READS_0 ?wx_READS_1 ?wy_READS_1 ?wx_READS_2 ?wy_READS_2 ?wx_READS_3 ?wy_READS_3 ?wx_READS_4 ?wy_READS_4 ?wx_READS_5 ?wy_READS_5 ?wx_READS_6 ?wy_READS_6 ?wx_READS_7 ?wy_READS_7 ?wx_READS_8 ?wy_READS_8 ?wx_READS_9 ?wy_READS_9 ?wx_READS_10 ?wy_READS_10 ?wx_READS_11 ?wy_READS_11 ?wx_READS_12 ?wy_READS_12 ?wx_READS_13 ?wy_READS_13 ?wx_READS_14 ?wy_READS_14 ?wx_READS_15 ?wy_READS_15 ?wx_READS_16 ?wy_READS_16 ?wx_READS_17 ?wy_READS_17 ?wx_READS_18 ?wy_READS_18 ?wx_READS_19 ?wy_READS_19 ?wx_READS_20 ?wy_READS_20 ?wx_READS_21 ?wy_READS_21 ?wx_READS_22 ?wy_READS_22 ?wx_READS_23 ?wy_READS_23 ?wx_READS_24 ?wy_READS_24 ?wg_WRITES ?wl_WRITES ?wk_WRITES ?wo_WRITES ?wx_WRITES_0 ?wx_WRITES_1 ?wx_WRITES_2 ?wx_WRITES_3 ?wx_WRITES_4 ?wx_WRITES_5 ?wx_WRITES_6 ?wx_WRITES_7 ?wx_WRITES_8 ?wx_WRITES_9 ?wx_WRITES_10 ?wx_WRITES_11 ?wx_WRITES_12 ?wx_WRITES_13 ?wx_WRITES_14 ?wx_WRITES_15 ?wx_WRITES_16 ?wx_WRITES_17 ?wx_WRITES_18 ?wx_WRITES_19 ?wx_WRITES_20 ?wx_WRITES_21 ?wx_WRITES_22 ?wx_WRITES_23 ?wx_WRITES_24
    (case gc_Code => k_is)
    (case pg_Code => k_is)
    (case hd_Code => k_is)
    (case po_Code => k_is)
    (case sa_Code => k_is)
    (case mk_Code => k_is)
    (case kc_Code => k_is)
    (case na_Code_name => k_is)
    (case na_Code_params => k_is)
    (case na_Code_size => k_is)
    (case na_Code_rows => k_is)
    (case na_Code_handlers => k_is)
    (case na_Code_known_live => k_is)
    (case a_handler_at => k_is)
    (case l_handler_at => k_is)
    (case c_handler_at => k_is)
    (case k_handler_at => k_is)
    (case a_slots_read => k_is)
    (case l_slots_read => k_is)
    (case c_slots_read => k_is)
    (case k_slots_read => k_is)
    (case a_target => k_is)
    (case l_target => k_is)
    (case c_target => k_is)
    (case k_target => k_is)
    (case a_following => k_is)
    (case l_following => k_is)
    (case c_following => k_is)
    (case k_following => k_is)
    (case a_live => k_is)
    (case l_live => k_is)
    (case c_live => k_is)
    (case k_live => k_is)
    (case a_waiting => k_is)
    (case l_waiting => k_is)
    (case c_waiting => k_is)
    (case k_waiting => k_is)
    (case a_slots_in => k_is)
    (case l_slots_in => k_is)
    (case c_slots_in => k_is)
    (case k_slots_in => k_is)
    (case a_mask_of => k_is)
    (case l_mask_of => k_is)
    (case c_mask_of => k_is)
    (case k_mask_of => k_is)
    (case a_without_slot => k_is)
    (case l_without_slot => k_is)
    (case c_without_slot => k_is)
    (case k_without_slot => k_is)
    (case a_live_masks => k_is)
    (case l_live_masks => k_is)
    (case c_live_masks => k_is)
    (case k_live_masks => k_is)
    (case a_solved_masks => k_is)
    (case l_solved_masks => k_is)
    (case c_solved_masks => k_is)
    (case k_solved_masks => k_is)
    (case a_waiting_mask => k_is)
    (case l_waiting_mask => k_is)
    (case c_waiting_mask => k_is)
    (case k_waiting_mask => k_is)
    (case a_Code_init => k_is)
    (case i_Code_init => k_is)
    (case l_Code_init => k_is)
    (case c_Code_init => k_is)
    (case k_Code_init => k_is)
    (case a_law_box => k_is)
    (case l_law_box => k_is)
    (case c_law_box => k_is)
    (case k_law_box => k_is)
    (case a_law_draw => k_is)
    (case l_law_draw => k_is)
    (case c_law_draw => k_is)
    (case k_law_draw => k_is)
    (case a_law_reserved => k_is)
    (case l_law_reserved => k_is)
    (case c_law_reserved => k_is)
    (case k_law_reserved => k_is)
    (case a_law_word => k_is)
    (case l_law_word => k_is)
    (case c_law_word => k_is)
    (case k_law_word => k_is)
    (case a_law_value => k_is)
    (case l_law_value => k_is)
    (case c_law_value => k_is)
    (case k_law_value => k_is)
    (case a_law_row => k_is)
    (case l_law_row => k_is)
    (case c_law_row => k_is)
    (case k_law_row => k_is)
    (case a_law_words => k_is)
    (case l_law_words => k_is)
    (case c_law_words => k_is)
    (case k_law_words => k_is)
    (case a_law_drawn => k_is)
    (case l_law_drawn => k_is)
    (case c_law_drawn => k_is)
    (case k_law_drawn => k_is)
    (case a_law_read => k_is)
    (case l_law_read => k_is)
    (case c_law_read => k_is)
    (case k_law_read => k_is)
    (case a_law_written => k_is)
    (case l_law_written => k_is)
    (case c_law_written => k_is)
    (case k_law_written => k_is)
    (case a_law_later => k_is)
    (case l_law_later => k_is)
    (case c_law_later => k_is)
    (case k_law_later => k_is)
    (case a_law_catcher => k_is)
    (case l_law_catcher => k_is)
    (case c_law_catcher => k_is)
    (case k_law_catcher => k_is)
    (case a_law_waits => k_is)
    (case l_law_waits => k_is)
    (case c_law_waits => k_is)
    (case k_law_waits => k_is)
    (case a_law_alive => k_is)
    (case l_law_alive => k_is)
    (case c_law_alive => k_is)
    (case k_law_alive => k_is)
    (case a_law_same => k_is)
    (case l_law_same => k_is)
    (case c_law_same => k_is)
    (case k_law_same => k_is)
    (case a_law_live_agrees => k_is)
    (case l_law_live_agrees => k_is)
    (case c_law_live_agrees => k_is)
    (case k_law_live_agrees => k_is)
    (case a_law_waiting_agrees => k_is)
    (case l_law_waiting_agrees => k_is)
    (case c_law_waiting_agrees => k_is)
    (case k_law_waiting_agrees => k_is)
    (case a_law => k_is)
    (case l_law => k_is)
    (case c_law => k_is)
    (case k_law => k_is)
    (case n_all => k_is)
    (case n_bool => k_is)
    (case n_int => k_is)
    (case n_isinstance => k_is)
    (case n_len => k_is)
    (case n_list => k_is)
    (case n_range => k_is)
    (case n_reversed => k_is)
    (case n_sorted => k_is)
    (case n_str => k_is)
    (case n_sum => k_is)
    (case n_tuple => k_is)
    (case wg_LISTS => k_is)
    (case wl_LISTS => k_is)
    (case wk_LISTS => k_keys)
    (case wo_LISTS => first | rfl | decide)
    (case wx_LISTS_0 => k_is)
    (case wx_LISTS_1 => k_is)
    (case wx_LISTS_2 => k_is)
    (case wx_LISTS_3 => k_is)
    (case wx_LISTS_4 => k_is)
    (case wx_LISTS_5 => k_is)
    (case wx_LISTS_6 => k_is)
    (case wx_LISTS_7 => k_is)
    (case wx_LISTS_8 => k_is)
    (case wx_LISTS_9 => k_is)
    (case wx_LISTS_10 => k_is)
    (case wx_LISTS_11 => k_is)
    (case wx_LISTS_12 => k_is)
    (case wx_LISTS_13 => k_is)
    (case wx_LISTS_14 => k_is)
    (case wx_LISTS_15 => k_is)
    (case wx_LISTS_16 => k_is)
    (case wx_LISTS_17 => k_is)
    (case wx_LISTS_18 => k_is)
    (case wx_LISTS_19 => k_is)
    (case wx_LISTS_20 => k_is)
    (case wx_LISTS_21 => k_is)
    (case wx_LISTS_22 => k_is)
    (case wx_LISTS_23 => k_is)
    (case wx_LISTS_24 => k_is)
    (case wg_READS => k_is)
    (case wl_READS => k_is)
    (case wk_READS => k_keys)
    (case wo_READS => first | rfl | decide)
    (case wx_READS_0 => k_is)
    (case wy_READS_0 => k_is)
    (case wx_READS_1 => k_is)
    (case wy_READS_1 => k_is)
    (case wx_READS_2 => k_is)
    (case wy_READS_2 => k_is)
    (case wx_READS_3 => k_is)
    (case wy_READS_3 => k_is)
    (case wx_READS_4 => k_is)
    (case wy_READS_4 => k_is)
    (case wx_READS_5 => k_is)
    (case wy_READS_5 => k_is)
    (case wx_READS_6 => k_is)
    (case wy_READS_6 => k_is)
    (case wx_READS_7 => k_is)
    (case wy_READS_7 => k_is)
    (case wx_READS_8 => k_is)
    (case wy_READS_8 => k_is)
    (case wx_READS_9 => k_is)
    (case wy_READS_9 => k_is)
    (case wx_READS_10 => k_is)
    (case wy_READS_10 => k_is)
    (case wx_READS_11 => k_is)
    (case wy_READS_11 => k_is)
    (case wx_READS_12 => k_is)
    (case wy_READS_12 => k_is)
    (case wx_READS_13 => k_is)
    (case wy_READS_13 => k_is)
    (case wx_READS_14 => k_is)
    (case wy_READS_14 => k_is)
    (case wx_READS_15 => k_is)
    (case wy_READS_15 => k_is)
    (case wx_READS_16 => k_is)
    (case wy_READS_16 => k_is)
    (case wx_READS_17 => k_is)
    (case wy_READS_17 => k_is)
    (case wx_READS_18 => k_is)
    (case wy_READS_18 => k_is)
    (case wx_READS_19 => k_is)
    (case wy_READS_19 => k_is)
    (case wx_READS_20 => k_is)
    (case wy_READS_20 => k_is)
    (case wx_READS_21 => k_is)
    (case wy_READS_21 => k_is)
    (case wx_READS_22 => k_is)
    (case wy_READS_22 => k_is)
    (case wx_READS_23 => k_is)
    (case wy_READS_23 => k_is)
    (case wx_READS_24 => k_is)
    (case wy_READS_24 => k_is)
    (case wg_WRITES => k_is)
    (case wl_WRITES => k_is)
    (case wk_WRITES => k_keys)
    (case wo_WRITES => first | rfl | decide)
    (case wx_WRITES_0 => k_is)
    (case wx_WRITES_1 => k_is)
    (case wx_WRITES_2 => k_is)
    (case wx_WRITES_3 => k_is)
    (case wx_WRITES_4 => k_is)
    (case wx_WRITES_5 => k_is)
    (case wx_WRITES_6 => k_is)
    (case wx_WRITES_7 => k_is)
    (case wx_WRITES_8 => k_is)
    (case wx_WRITES_9 => k_is)
    (case wx_WRITES_10 => k_is)
    (case wx_WRITES_11 => k_is)
    (case wx_WRITES_12 => k_is)
    (case wx_WRITES_13 => k_is)
    (case wx_WRITES_14 => k_is)
    (case wx_WRITES_15 => k_is)
    (case wx_WRITES_16 => k_is)
    (case wx_WRITES_17 => k_is)
    (case wx_WRITES_18 => k_is)
    (case wx_WRITES_19 => k_is)
    (case wx_WRITES_20 => k_is)
    (case wx_WRITES_21 => k_is)
    (case wx_WRITES_22 => k_is)
    (case wx_WRITES_23 => k_is)
    (case wx_WRITES_24 => k_is)
#print axioms PySem.Challenge.cw_reforge_k08_live_slots_holds
