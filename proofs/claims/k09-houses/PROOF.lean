import PyProof.Rows.All
import Wide.All
import OpenK.AllK
import Wide.FinOn
import PyProof.EqAt
import PyProof.EqKinds
import PyProof.TupleCall
import HandS.ForMost
import HandS.ForExc
import HandS.Wide
import HandS.IsInst
import HandS.Defaults
import HandS.SetFor
import HandS.Deep
import HandS.ExcIs
import HandS.Lambda
import HandS.EndTab
import HandS.Conv
import HandS.More
import HandS.Zip
import PySem.Challenge.RW_frankmeter_k09_houses
set_option Elab.async false
set_option linter.all false
set_option maxRecDepth 100000
set_option maxRecDepth 100000
/-! the walker's own layer: heaps, readings as steps -/
namespace Fk
open PySem PySem.Spec PyProof.Rows L2

/-! ### heaps -/
/-- all that was tracked is as it was, but for what stands at S -/
def Mx (S : List Addr) (H H' : Hp) : Prop := ∀ a o, H a = some o → a ∉ S → H' a = some o
theorem Mx.refl {S : List Addr} {H : Hp} : Mx S H H := fun _ _ h _ => h
theorem Mx.trans {S : List Addr} {H H1 H2 : Hp} (a : Mx S H H1) (b : Mx S H1 H2) : Mx S H H2 := fun c o h n => b c o (a c o h n) n
theorem Mx.mono {S T : List Addr} {H H1 : Hp} (a : Mx S H H1) (h : ∀ x ∈ S, x ∈ T) : Mx T H H1 := fun c o e n => a c o e fun z => n (h c z)
theorem Mx.of0 {S : List Addr} {H H1 : Hp} (a : Mx [] H H1) : Mx S H H1 := fun c o e n => a c o e (by simp)
theorem Mx.new {S : List Addr} {H : Hp} {p : Addr} {o : HO} (h : H p = none) : Mx S H (upd H p o) := fun a u e _ => by
  rw [upd_ne (ne_of_none e h)]; exact e
theorem Mx.put {S : List Addr} {H : Hp} {p : Addr} {o : HO} (h : p ∈ S) : Mx S H (upd H p o) := fun a u e n => by
  rw [upd_ne (fun z => n (by rw [z]; exact h))]; exact e
theorem Mx.get {S : List Addr} {H H' : Hp} {a : Addr} {o : HO} (m : Mx S H H') (n : a ∉ S) (h : H a = some o) : H' a = some o := m a o h n
theorem Mx.get0 {H H' : Hp} {a : Addr} {o : HO} (m : Mx [] H H') (h : H a = some o) : H' a = some o := m a o h (by simp)
theorem Mx.free0 {H H' : Hp} {p : Addr} (m : Mx [] H H') (h : H' p = none) : H p = none := by
  cases e : H p with
  | none => rfl
  | some o => have := m p o e (by simp); rw [h] at this; cases this
theorem Mx.free {S : List Addr} {H H' : Hp} {p : Addr} (m : Mx S H H') (h : H' p = none) (n : p ∉ S) : H p = none := by
  cases e : H p with
  | none => rfl
  | some o => have := m p o e n; rw [h] at this; cases this
theorem Mx.rd0 {H H' : Hp} {a : Addr} {u : HO} (m : Mx [] H H') (h : Rd H a u) : Rd H' a u := by
  rcases h with h | ⟨o, h⟩
  · exact .inl (m.get0 h)
  · exact .inr ⟨o, m.get0 h⟩
theorem Mx.rd {S : List Addr} {H H' : Hp} {a : Addr} {u : HO} (m : Mx S H H') (n : a ∉ S) (h : Rd H a u) : Rd H' a u := by
  rcases h with h | ⟨o, h⟩
  · exact .inl (m.get n h)
  · exact .inr ⟨o, m.get n h⟩
theorem Mx.sqL {K : PySem.W.Frag} {S : List Addr} {H H' : Hp} {a : Addr} {xs : List V} (m : Mx S H H') (n : a ∉ S) (h : SqL K H a xs) : SqL K H' a xs := by
  rcases h with h | h
  · exact .inl (m.rd n h)
  · exact .inr h
theorem Mx.sqT {K : PySem.W.Frag} {S : List Addr} {H H' : Hp} {a : Addr} {xs : List V} (m : Mx S H H') (n : a ∉ S) (h : SqT K H a xs) : SqT K H' a xs := by
  rcases h with h | h
  · exact .inl (m.rd n h)
  · exact .inr h
theorem Mx.sqL0 {K : PySem.W.Frag} {H H' : Hp} {a : Addr} {xs : List V} (m : Mx [] H H') (h : SqL K H a xs) : SqL K H' a xs := m.sqL (by simp) h
theorem Mx.sqT0 {K : PySem.W.Frag} {H H' : Hp} {a : Addr} {xs : List V} (m : Mx [] H H') (h : SqT K H a xs) : SqT K H' a xs := m.sqT (by simp) h
/-- a tuple is never among what is written -/
theorem not_tup {H : Hp} {S : List Addr} (hS : ∀ x ∈ S, ∀ ys, H x ≠ some (.tup ys)) {a : Addr} {xs : List V} (h : H a = some (.tup xs)) : a ∉ S := fun z => hS a z xs h

/-! ### small steps of a reading -/
section
variable {K : PySem.W.Frag} {σ σ' : L2.St} {H : Hp} {Q : VK} {QB : Bool → Hp → Prop} {QA : List V → Hp → Prop} {D : Ends} {v x y : V}
theorem g_var {i : Nat} (h : σ[i]? = some (some v)) (k : Q v H) : tVar i σ H Q := ⟨v, h, k⟩
theorem g_c (k : Q v H) : tC v σ H Q := k
theorem g_op {r : R2} {ta tb : TE} (k : ta σ H fun x H1 => tb σ H1 fun y H2 => r x y H2 Q) : tOp r ta tb σ H Q := k
theorem g_un {r : V → Hp → VK → Prop} {ta : TE} (k : ta σ H fun x H1 => r x H1 Q) : tUn r ta σ H Q := k
theorem g_I0 {g : Int → Int → V} {i j : Int} (k : Q (g i j) H) : rI0 g (.int i) (.int j) H Q := ⟨i, j, rfl, rfl, k⟩
theorem g_I {C : Int → Int → Prop} {g : Int → Int → V} {i j : Int} (c : C i j) (k : Q (g i j) H) : rI C g (.int i) (.int j) H Q := ⟨i, j, rfl, rfl, c, k⟩
theorem g_U {g : Int → V} {i : Int} (k : Q (g i) H) : rU g (.int i) H Q := ⟨i, rfl, k⟩
theorem g_eq (h : scal x y = true) (k : Q (.bl (decide (x = y))) H) : rEq x y H Q := ⟨h, k⟩
theorem g_ne (h : scal x y = true) (k : Q (.bl (!decide (x = y))) H) : rNe x y H Q := ⟨h, k⟩
/-- a truth value goes on as a Bool -/
def kBl (Q : Bool → Hp → Prop) : VK := fun x H' => ∃ k, x = .bl k ∧ Q k H'
theorem g_bl {b : Bool} (k : QB b H) : kBl QB (.bl b) H := ⟨b, rfl, k⟩
theorem g_test {t : TE} (k : t σ H (kBl QB)) : tTest t σ H QB := k
theorem g_tB {t : TE} (k : t σ H (kBl QB)) : tB t σ H QB := k
theorem g_not {t : TT} (k : t σ H fun c H1 => QB (!c) H1) : tNot t σ H QB := k
theorem g_and {t u : TT} (k : t σ H fun c H1 => if c = true then u σ H1 QB else QB false H1) : tAnd t u σ H QB := k
theorem g_or {t u : TT} (k : t σ H fun c H1 => if c = true then QB true H1 else u σ H1 QB) : tOr t u σ H QB := k
/-- a value that is a truth value, then one of two ways -/
def kIf (F : Bool → Hp → Prop) : VK := fun x H1 => ∃ c, x = .bl c ∧ F c H1
theorem g_kIf {F : Bool → Hp → Prop} {b : Bool} (k : F b H) : kIf F (.bl b) H := ⟨b, rfl, k⟩
theorem g_andV {ta tb : TE} (k : ta σ H (kIf fun c H1 => if c = true then tb σ H1 Q else Q (.bl false) H1)) : tAndV ta tb σ H Q := k
theorem g_orV {ta tb : TE} (k : ta σ H (kIf fun c H1 => if c = true then Q (.bl true) H1 else tb σ H1 Q)) : tOrV ta tb σ H Q := k
theorem g_notV {ta : TE} (k : ta σ H (kIf fun c H1 => Q (.bl (!c)) H1)) : tNotV ta σ H Q := k
theorem g_isN {ta : TE} (k : ta σ H fun x H1 => Q (.bl (decide (x = .non))) H1) : tIsN ta σ H Q := k
theorem g_notN {ta : TE} (k : ta σ H fun x H1 => Q (.bl (!decide (x = .non))) H1) : tNotN ta σ H Q := k
theorem g_ifE {t : TT} {ta tb : TE} (k : t σ H fun c H1 => if c = true then ta σ H1 Q else tb σ H1 Q) : tIf t ta tb σ H Q := k
theorem g_ite {b : Bool} {A B : Prop} (h1 : b = true → A) (h2 : b = false → B) : if b = true then A else B := by
  cases b with
  | true => rw [if_pos rfl]; exact h1 rfl
  | false => rw [if_neg Bool.false_ne_true]; exact h2 rfl
theorem g_yes {b : Bool} {A B : Prop} (e : b = true) (h : A) : if b = true then A else B := by rw [if_pos e]; exact h
theorem g_no {b : Bool} {A B : Prop} (e : b = false) (h : B) : if b = true then A else B := by rw [e, if_neg Bool.false_ne_true]; exact h
/-- a chain a < b < c -/
def kCh (r' : R2) (tc : TE) (σ : L2.St) (y : V) (Q : VK) : VK := fun z H3 => ∃ k, z = .bl k ∧ (if k = true then tc σ H3 fun w' H4 => r' y w' H4 Q else Q (.bl false) H3)
theorem g_kCh {r' : R2} {tc : TE} {b : Bool} (k : if b = true then tc σ H fun w' H4 => r' y w' H4 Q else Q (.bl false) H) : kCh r' tc σ y Q (.bl b) H := ⟨b, rfl, k⟩
theorem g_chain {r r' : R2} {ta tb tc : TE} (k : ta σ H fun x H1 => tb σ H1 fun y H2 => r x y H2 (kCh r' tc σ y Q)) : tChain r r' ta tb tc σ H Q := k
/-! arguments, displays -/
theorem g_nil (k : QA [] H) : tNil σ H QA := k
theorem g_cons {ta : TE} {tr : TA} (k : ta σ H fun x H1 => tr σ H1 fun xs H2 => QA (x :: xs) H2) : tCons ta tr σ H QA := k
theorem lineS {n : Nat} (h : n ≤ 100000) : n ≤ sizeLine := Nat.le_trans h (by rw [sizeLine_eq]; decide)
theorem lineL {n : Nat} (h : n < 100000) : n < sizeLine := Nat.lt_of_lt_of_le h (by rw [sizeLine_eq]; decide)
/-- a new object of content o -/
def kNew (o : List V → HO) (Q : VK) : List V → Hp → Prop := fun xs H1 => xs.length ≤ sizeLine ∧ ∀ p, H1 p = none → Q (.ref p) (upd H1 p (o xs))
theorem g_tup {t : TA} (k : t σ H (kNew .tup Q)) : tTup t σ H Q := k
theorem g_lst {t : TA} (k : t σ H (kNew .lst Q)) : tLst t σ H Q := k
theorem g_kNew {o : List V → HO} {xs : List V} (hl : xs.length ≤ 100000) (k : ∀ p H', H p = none → Mx [] H H' → H' p = some (o xs) → Q (.ref p) H') : kNew o Q xs H :=
  ⟨lineS hl, fun p hp => k p _ hp (.new hp) upd_same⟩
/-- at any free place -/
theorem g_new {o : HO} {F : Addr → Hp → Prop} (k : ∀ p H', H p = none → Mx [] H H' → H' p = some o → F p H') : ∀ p, H p = none → F p (upd H p o) := fun p hp => k p _ hp (.new hp) upd_same
/-! subscripts -/
theorem g_ixL {p : Addr} {xs : List V} {i : Int} (h : SqL K H p xs) (ha : atI xs i = some v) (k : Q v H) : rIxL K (.ref p) (.int i) H Q := ⟨p, xs, i, v, rfl, rfl, h, ha, k⟩
theorem g_ixT {p : Addr} {xs : List V} {i : Int} (h : SqT K H p xs) (ha : atI xs i = some v) (k : Q v H) : rIxT K (.ref p) (.int i) H Q := ⟨p, xs, i, v, rfl, rfl, h, ha, k⟩
theorem g_slice {r : V → Option Int → Option Int → Hp → VK → Prop} {te : TE} {tl th : TO} (k : te σ H fun x H1 => tl σ H1 fun l H2 => th σ H2 fun u H3 => r x l u H3 Q) : tSl r te tl th σ H Q := k
theorem g_noPart {QO : Option Int → Hp → Prop} (k : QO none H) : tNoPart σ H QO := k
def kPart (QO : Option Int → Hp → Prop) : VK := fun x H1 => ∃ i, x = .int i ∧ QO (some i) H1
theorem g_kPart {QO : Option Int → Hp → Prop} {i : Int} (k : QO (some i) H) : kPart QO (.int i) H := ⟨i, rfl, k⟩
theorem g_part {t : TE} {QO : Option Int → Hp → Prop} (k : t σ H (kPart QO)) : tPart t σ H QO := k
theorem g_slL {a : Addr} {xs : List V} {lo hi : Option Int} (h : SqL K H a xs) (k : ∀ p H', H p = none → Mx [] H H' → H' p = some (.lst (cutV xs lo hi)) → Q (.ref p) H') : rSlL K (.ref a) lo hi H Q :=
  ⟨a, xs, rfl, h, fun p hp => k p _ hp (.new hp) upd_same⟩
theorem g_slT {a : Addr} {xs : List V} {lo hi : Option Int} (h : SqT K H a xs) (hn : ¬ (HT.sIx xs.length 0 lo = 0 ∧ HT.sIx xs.length xs.length hi = xs.length)) (k : ∀ p H', H p = none → Mx [] H H' → H' p = some (.tup (cutV xs lo hi)) → Q (.ref p) H') : rSlT K (.ref a) lo hi H Q :=
  ⟨a, xs, rfl, h, hn, fun p hp => k p _ hp (.new hp) upd_same⟩
theorem g_cat {l b : Addr} {xs zs : List V} (h1 : H l = some (.lst xs)) (h2 : H b = some (.lst zs)) (hl : xs.length + zs.length ≤ 100000) (k : ∀ p H', H p = none → Mx [] H H' → H' p = some (.lst (xs ++ zs)) → Q (.ref p) H') : rCat (.ref l) (.ref b) H Q :=
  ⟨l, b, xs, zs, rfl, rfl, h1, h2, lineS hl, fun p hp => k p _ hp (.new hp) upd_same⟩
theorem g_rep {l : Addr} {n : Int} {xs : List V} (h1 : H l = some (.lst xs)) (h2 : 0 ≤ n) (h3 : n ≤ 1000) (hl : xs.length * n.toNat ≤ 100000) (k : ∀ p H', H p = none → Mx [] H H' → H' p = some (.lst (List.replicate n.toNat xs).flatten) → Q (.ref p) H') : rRep (.ref l) (.int n) H Q :=
  ⟨l, n, xs, rfl, rfl, h1, by omega, by omega, lineS hl, fun p hp => k p _ hp (.new hp) upd_same⟩
theorem g_setL {p : Addr} {xs : List V} {i : Int} {j : Nat} {QH : Hp → Prop} (h : H p = some (.lst xs)) (hi : ixN xs.length i = some j) (k : ∀ H', Mx [p] H H' → H' p = some (.lst (xs.set j v)) → QH H') : rSetL (.ref p) (.int i) v H QH :=
  ⟨p, xs, i, j, rfl, rfl, h, hi, k _ (.put (by simp)) upd_same⟩
/-! calls of built-ins -/
theorem g_CB {r : List V → Hp → VK → Prop} {t : TA} (k : t σ H fun vs H1 => r vs H1 Q) : tCB r t σ H Q := k
def rLen (K : PySem.W.Frag) : List V → Hp → VK → Prop := fun xs H Q => ∃ p ys, xs = [.ref p] ∧ (SqL K H p ys ∨ SqT K H p ys) ∧ Q (.int ys.length) H
theorem c_len {X : Cx} : CallR X (.builtin "len") (rLen X.K) := call_len_seq
theorem g_lenL {p : Addr} {ys : List V} (h : SqL K H p ys) (k : Q (.int (ys.length : Int)) H) : rLen K [.ref p] H Q := ⟨p, ys, rfl, .inl h, k⟩
theorem g_lenT {p : Addr} {ys : List V} (h : SqT K H p ys) (k : Q (.int (ys.length : Int)) H) : rLen K [.ref p] H Q := ⟨p, ys, rfl, .inr h, k⟩
def rListOf (K : PySem.W.Frag) : List V → Hp → VK → Prop := fun xs H Q => ∃ p ys, xs = [.ref p] ∧ (SqL K H p ys ∨ SqT K H p ys) ∧ ∀ l, H l = none → Q (.ref l) (upd H l (.lst ys))
theorem c_list {X : Cx} : CallR X (.type "list") (rListOf X.K) := call_list_of
theorem g_listL {p : Addr} {ys : List V} (h : SqL K H p ys) (k : ∀ l H', H l = none → Mx [] H H' → H' l = some (.lst ys) → Q (.ref l) H') : rListOf K [.ref p] H Q :=
  ⟨p, ys, rfl, .inl h, fun l hl => k l _ hl (.new hl) upd_same⟩
def rTupOf (K : PySem.W.Frag) : List V → Hp → VK → Prop := fun xs H Q => ∃ p ys, xs = [.ref p] ∧ ((SqL K H p ys ∧ ∀ l, H l = none → Q (.ref l) (upd H l (.tup ys))) ∨ (SqT K H p ys ∧ Q (.ref p) H))
theorem c_tuple {X : Cx} : CallR X (.type "tuple") (rTupOf X.K) := call_tuple_of
theorem g_tupleL {p : Addr} {ys : List V} (h : SqL K H p ys) (k : ∀ l H', H l = none → Mx [] H H' → H' l = some (.tup ys) → Q (.ref l) H') : rTupOf K [.ref p] H Q :=
  ⟨p, ys, rfl, .inl ⟨h, fun l hl => k l _ hl (.new hl) upd_same⟩⟩
def rMax2 : List V → Hp → VK → Prop := fun xs H Q => ∃ i j, xs = [.int i, .int j] ∧ Q (.int (if j > i then j else i)) H
theorem c_max {X : Cx} (hc : X.calm = true) : CallR X (.builtin "max") rMax2 := call_max2 hc
theorem g_max {i j : Int} (k : Q (.int (if j > i then j else i)) H) : rMax2 [.int i, .int j] H Q := ⟨i, j, rfl, k⟩
def rMin2 : List V → Hp → VK → Prop := fun xs H Q => ∃ i j, xs = [.int i, .int j] ∧ Q (.int (if j < i then j else i)) H
theorem c_min {X : Cx} (hc : X.calm = true) : CallR X (.builtin "min") rMin2 := call_min2 hc
theorem g_min {i j : Int} (k : Q (.int (if j < i then j else i)) H) : rMin2 [.int i, .int j] H Q := ⟨i, j, rfl, k⟩
def rInt1 : List V → Hp → VK → Prop := fun xs H Q => (∃ i, xs = [.int i] ∧ Q (.int i) H) ∨ ∃ k, xs = [.bl k] ∧ Q (.int (if k then 1 else 0)) H
theorem c_int {X : Cx} : CallR X (.type "int") rInt1 := call_int1
theorem g_intB {b : Bool} (k : Q (.int (if b then 1 else 0)) H) : rInt1 [.bl b] H Q := .inr ⟨b, rfl, k⟩
/-! fields -/
def kFld (K : PySem.W.Frag) (f : Str) (Q : VK) : VK := fun x H1 => ∃ a C dx fs v, x = .ref a ∧ H1 a = some (.ins C dx fs) ∧ Cls K C ∧ NoAttr K C f ∧ fs.lookup f = some v ∧ Q v H1
theorem g_fld {ta : TE} {f : Str} (k : ta σ H (kFld K f Q)) : tFld K ta f σ H Q := k
theorem g_kFld {f : Str} {a C dx : Addr} {fs : List (Str × V)} (h : H a = some (.ins C dx fs)) (c : Cls K C) (n : NoAttr K C f) (l : fs.lookup f = some v) (k : Q v H) : kFld K f Q (.ref a) H := ⟨a, C, dx, fs, v, rfl, h, c, n, l, k⟩
def kPut (K : PySem.W.Frag) (f : Str) (y : V) (N : Hp → Prop) : VK := fun x H2 => ∃ a C dx fs, x = .ref a ∧ H2 a = some (.ins C dx fs) ∧ Cls K C ∧ NoAttr K C f ∧ fs.length < 1000 ∧ N (upd H2 a (.ins C dx (putF f y fs)))
theorem g_put {ta tv : TE} {f : Str} (k : tv σ H fun y H1 => ta σ H1 (kPut K f y fun H3 => D.nx σ H3)) : sFld K ta tv f D σ H := k
theorem g_kPut {f : Str} {a C dx : Addr} {fs fs' : List (Str × V)} {N : Hp → Prop} (h : H a = some (.ins C dx fs)) (c : Cls K C) (n : NoAttr K C f) (e : putF f y fs = fs') (hl : fs.length < 1000)
    (k : ∀ H', Mx [a] H H' → H' a = some (.ins C dx fs') → N H') : kPut K f y N (.ref a) H := ⟨a, C, dx, fs, rfl, h, c, n, hl, by rw [e]; exact k _ (.put (by simp)) upd_same⟩
/-! dicts -/
def kDGet (x : V) (Q : VK) : VK := fun y H2 => ∃ a v, x = .ref a ∧ DGet H2 a y (some v) ∧ Q v H2
theorem g_dget {td ty : TE} (k : td σ H fun x H1 => ty σ H1 (kDGet x Q)) : tDGet td ty σ H Q := k
theorem g_kDGetS {a : Addr} {z : Str} {kvs : List (Key × V)} (h : H a = some (.dK kvs)) (l : valV kvs (Sum.inr z) = some v) (k : Q v H) : kDGet (.ref a) Q (.str z) H := ⟨a, v, rfl, l ▸ DGet.k (k := Sum.inr z) h, k⟩
theorem g_kDGetI {a : Addr} {z : Int} {kvs : List (Key × V)} (h : H a = some (.dK kvs)) (l : valV kvs (Sum.inl z) = some v) (k : Q v H) : kDGet (.ref a) Q (.int z) H := ⟨a, v, rfl, l ▸ DGet.k (k := Sum.inl z) h, k⟩
theorem g_kDGetIr {a : Addr} {z : Int} {kvs : List (Key × V)} (h : Rd H a (.dK kvs)) (l : valV kvs (Sum.inl z) = some v) (k : Q v H) : kDGet (.ref a) Q (.int z) H := ⟨a, v, rfl, l ▸ .inl ⟨kvs, Sum.inl z, h, rfl, rfl⟩, k⟩
/-! statements -/
theorem g_seq {t u : TS} (k : t { D with nx := u D } σ H) : tSeq t u D σ H := k
theorem g_next (k : D.nx σ H) : tNext D σ H := k
theorem g_asg {te : TE} {g : TG} (k : te σ H fun x H1 => g x σ H1 D.nx) : tAsg te g D σ H := k
theorem g_name {i : Nat} {QS : L2.St → Hp → Prop} (k : QS (σ.set i (some v)) H) : gName i v σ H QS := k
theorem g_drop {te : TE} (k : te σ H fun _ H1 => D.nx σ H1) : tDrop te D σ H := k
theorem g_ret {te : TE} (k : te σ H D.rt) : tRet te D σ H := k
theorem g_retN (k : D.rt .non H) : tRetN D σ H := k
theorem g_if {c : TT} {t u : TS} (k : c σ H fun b H1 => if b = true then t D σ H1 else u D σ H1) : tIfS c t u D σ H := k
theorem g_sub {to ti : TE} {t : TSet} {QS : L2.St → Hp → Prop} (k : to σ H fun o H1 => ti σ H1 fun i H2 => t o i v H2 fun H3 => QS σ H3) : gSub to ti t v σ H QS := k
theorem g_gtup {n : Nat} {t : TGs} {a : Addr} {xs : List V} {QS : L2.St → Hp → Prop} (h : SqT K H a xs) (hl : xs.length = n) (k : t xs σ H QS) : gTup K n t (.ref a) σ H QS := ⟨a, xs, rfl, h, hl, k⟩
theorem g_gcons {t : TG} {u : TGs} {r : List V} {QS : L2.St → Hp → Prop} (k : t v σ H fun σ' H' => u r σ' H' QS) : gCons t u (v :: r) σ H QS := ⟨v, r, rfl, k⟩
theorem g_gnil {QS : L2.St → Hp → Prop} (k : QS σ H) : gNil [] σ H QS := ⟨rfl, k⟩
/-! calls of the text's own defs -/
theorem g_call {sp : Sp} {dvs : List V} {E : XK} {t : TA} (k : t σ H fun vs H1 => sp (vs ++ dvs) H1 Q E) : tCall sp dvs E t σ H Q := k
def kMeth (C : Addr) (m : Str) (sp : Sp) (dvs : List V) (E : XK) (t : TA) (σ : L2.St) (Q : VK) : VK := fun x H1 => ∃ a dx fs, x = .ref a ∧ H1 a = some (.ins C dx fs) ∧ fs.lookup m = none ∧ t σ H1 fun vs H2 => sp (x :: (vs ++ dvs)) H2 Q E
theorem g_meth {C : Addr} {m : Str} {sp : Sp} {dvs : List V} {E : XK} {ta : TE} {t : TA} (k : ta σ H (kMeth C m sp dvs E t σ Q)) : tMeth C m sp dvs E ta t σ H Q := k
theorem g_kMeth {C a dx : Addr} {m : Str} {sp : Sp} {dvs : List V} {E : XK} {t : TA} {fs : List (Str × V)} (h : H a = some (.ins C dx fs)) (l : fs.lookup m = none) (k : t σ H fun vs H2 => sp (.ref a :: (vs ++ dvs)) H2 Q E) : kMeth C m sp dvs E t σ Q (.ref a) H := ⟨a, dx, fs, rfl, h, l, k⟩
/-! methods of built-in types -/
def kBM (K : PySem.W.Frag) (T : String) (r : V → List V → Hp → VK → Prop) (t : TA) (σ : L2.St) (Q : VK) : VK := fun x H1 => tyV K T x H1 ∧ t σ H1 fun xs H2 => r x xs H2 Q
theorem g_bm {T : String} {r : V → List V → Hp → VK → Prop} {to : TE} {t : TA} (k : to σ H (kBM K T r t σ Q)) : tBM K T r to t σ H Q := k
theorem g_kBM {r : V → List V → Hp → VK → Prop} {t : TA} {p : Addr} {xs : List V} (h : SqL K H p xs) (k : t σ H fun xs H2 => r (.ref p) xs H2 Q) : kBM K "list" r t σ Q (.ref p) H := ⟨.inl ⟨rfl, xs, h⟩, k⟩
def kBM0 (K : PySem.W.Frag) (T : String) (r : V → List V → Hp → VK → Prop) (Q : VK) : VK := fun x H1 => tyV K T x H1 ∧ r x [] H1 Q
theorem g_bm0 {T : String} {r : V → List V → Hp → VK → Prop} {to : TE} (k : to σ H (kBM0 K T r Q)) : tBM0 K T r to σ H Q := k
theorem g_kBM0 {r : V → List V → Hp → VK → Prop} {p : Addr} {xs : List V} (h : SqL K H p xs) (k : r (.ref p) [] H Q) : kBM0 K "list" r Q (.ref p) H := ⟨.inl ⟨rfl, xs, h⟩, k⟩
theorem g_append {l : Addr} {xs : List V} (h : H l = some (.lst xs)) (hl : xs.length < 100000) (k : ∀ H', Mx [l] H H' → H' l = some (.lst (xs ++ [y])) → Q .non H') : rAppend (.ref l) [y] H Q :=
  ⟨l, xs, y, rfl, rfl, h, lineL hl, k _ (.put (by simp)) upd_same⟩
theorem g_reverse {l : Addr} {xs : List V} (h : H l = some (.lst xs)) (k : ∀ H', Mx [l] H H' → H' l = some (.lst xs.reverse) → Q .non H') : rReverse (.ref l) [] H Q := ⟨l, xs, rfl, rfl, h, k _ (.put (by simp)) upd_same⟩
theorem g_clear {l : Addr} {xs : List V} (h : H l = some (.lst xs)) (k : ∀ H', Mx [l] H H' → H' l = some (.lst []) → Q .non H') : rClear (.ref l) [] H Q := ⟨l, xs, rfl, rfl, h, k _ (.put (by simp)) upd_same⟩
end
end Fk

set_option maxRecDepth 100000
namespace Fk
open PySem PySem.Spec PyProof.Rows L2
/-! ### what the text says of a def, a method, an error class -/
/-- a def of the module, called by its name -/
structure Cl (P : Program) (w : World) (K : PySem.W.Frag) (mg : Str → Option Value) (base : Heap) (k : Nat) (x : Str) (sp : Sp) (dvs : List V) : Prop where
  ex : ∃ (f : Addr) (fd : FuncData) (ps : List Str) (ds : List Value), FnOk P w K mg base (L2.CX P w) k f fd ps sp ∧ mg x = some (.ref f) ∧ PySem.W.keepIn K (.ref f) = true ∧ Binds K fd ps ds ∧ Vals dvs ds
/-- a method of the class at C -/
structure Me (P : Program) (w : World) (K : PySem.W.Frag) (mg : Str → Option Value) (base : Heap) (k : Nat) (C : Addr) (m : Str) (sp : Sp) (dvs : List V) : Prop where
  ex : ∃ (f : Addr) (fd : FuncData) (ps : List Str) (ds : List Value), Cls K C ∧ Meth K C m f ∧ FnOk P w K mg base (L2.CX P w) k f fd ps sp ∧ Binds K fd ps ds ∧ Vals dvs ds
/-- a class made by its name -/
structure Ma (P : Program) (w : World) (K : PySem.W.Frag) (mg : Str → Option Value) (base : Heap) (k : Nat) (x : Str) (C : Addr) (sp : Sp) (dvs : List V) : Prop where
  ex : ∃ (f : Addr) (fd : FuncData) (ps : List Str) (ds : List Value), Mk K C f ∧ FnOk P w K mg base (L2.CX P w) k f fd ps sp ∧ mg x = some (.ref C) ∧ Binds K fd ps ds ∧ Vals dvs ds
section
variable {X : Cx} {k j : Nat} {C : Addr} {x m : Str} {sp : Sp} {dvs : List V} {E : XK} {p pos apos : Pos} {e o : Expr} {es : List Expr} {ta : TE} {t : TA}
theorem q_call (c : Cl X.prog X.w X.K X.mg X.base k x sp dvs) (hr : Room j X.A) (hk : k ≤ j) (hg : Gl X x) (hx : Passes (L2.CX X.prog X.w) X E) (ha : PA X (e :: es) t)
    (hdb : (x == ("__debug__" : Str)) = false := by decide) (he : starEach (e :: es) X.env = (false, eval e X.env) :: starEach es X.env := by rfl) (hpl : (backTo pos (starEach es X.env)).any (·.1) = false := by rfl) :
    PE X (.Call (.Name x p) (e :: es) [] pos) (tCall sp dvs E t) := by
  obtain ⟨f, fd, ps, ds, F, hm, hk', hb, hd⟩ := c.ex
  exact pe_call F (hr.mono hk) hg hm hk' hb hd hx ha hdb he hpl
theorem q_call0 (c : Cl X.prog X.w X.K X.mg X.base k x sp dvs) (hr : Room j X.A) (hk : k ≤ j) (hg : Gl X x) (hx : Passes (L2.CX X.prog X.w) X E)
    (hdb : (x == ("__debug__" : Str)) = false := by decide) : PE X (.Call (.Name x p) [] [] pos) (tCall sp dvs E tNil) := by
  obtain ⟨f, fd, ps, ds, F, hm, hk', hb, hd⟩ := c.ex
  exact pe_call0 F (hr.mono hk) hg hm hk' hb hd hx hdb
theorem q_make (c : Ma X.prog X.w X.K X.mg X.base k x C sp dvs) (hr : Room j X.A) (hk : k + 1 ≤ j) (hg : Gl X x) (hx : Passes (L2.CX X.prog X.w) X E) (ha : PA X (e :: es) t)
    (hdb : (x == ("__debug__" : Str)) = false := by decide) (he : starEach (e :: es) X.env = (false, eval e X.env) :: starEach es X.env := by rfl) (hpl : (backTo pos (starEach es X.env)).any (·.1) = false := by rfl) :
    PE X (.Call (.Name x p) (e :: es) [] pos) (tMake C sp dvs E t) := by
  obtain ⟨f, fd, ps, ds, M, F, hm, hb, hd⟩ := c.ex
  exact pe_make M F (hr.mono hk) hg hm hb hd hx ha hdb he hpl
theorem q_meth {pl : Sem Bool} (c : Me X.prog X.w X.K X.mg X.base k C m sp dvs) (hr : Room j X.A) (hk : k ≤ j) (he : PE X o ta) (hx : Passes (L2.CX X.prog X.w) X E) (ha : PA X (e :: es) t)
    (hst : starEach (e :: es) X.env = (false, eval e X.env) :: starEach es X.env := by rfl) (hpl : (backTo pos (starEach es X.env)).any (·.1) = false := by rfl)
    (ht : eval (.Call (.Attribute o m apos) (e :: es) [] pos) X.env = (do
      let ov ← eval o X.env
      standAt apos.atName
      let (f, first) ← holding [ov] (getMethod ov m pl)
      callWith pos f first (backTo pos (starEach (e :: es) X.env)) (backToKw pos (keywordEach [] X.env))) := by rfl) :
    PE X (.Call (.Attribute o m apos) (e :: es) [] pos) (tMeth C m sp dvs E ta t) := by
  obtain ⟨f, fd, ps, ds, cl, hm, F, hb, hd⟩ := c.ex
  exact pe_meth he cl hm F (hr.mono hk) hb hd hx ha hst hpl ht
theorem q_meth0 {pl : Sem Bool} (c : Me X.prog X.w X.K X.mg X.base k C m sp dvs) (hr : Room j X.A) (hk : k ≤ j) (he : PE X o ta) (hx : Passes (L2.CX X.prog X.w) X E)
    (ht : eval (.Call (.Attribute o m apos) [] [] pos) X.env = (do
      let ov ← eval o X.env
      standAt apos.atName
      let (f, first) ← holding [ov] (getMethod ov m pl)
      callWith pos f first (backTo pos (starEach [] X.env)) (backToKw pos (keywordEach [] X.env))) := by rfl) :
    PE X (.Call (.Attribute o m apos) [] [] pos) (tMeth C m sp dvs E ta tNil) := by
  obtain ⟨f, fd, ps, ds, cl, hm, F, hb, hd⟩ := c.ex
  exact pe_meth0 he cl hm F (hr.mono hk) hb hd hx ht
end
/-- an own error class over ValueError without an __init__ -/
structure ExF (K : PySem.W.Frag) (mg : Str → Option Value) (x : Str) (C : Addr) : Prop where
  g : mg x = some (.ref C)
  xq : PySem.W.excIn K C [.type "ValueError", .type "Exception", .type "BaseException", .type "object"] "ValueError.__new__" = true
  k : PySem.W.keepIn K (.ref C) = true
  b : PySem.W.subIn K (.ref C) (.type "BaseException") = some true
  t : PySem.W.typeIn K (.ref C) = some (.type "type")
def tRaiseC (C : Addr) (W : WX) : TS := fun _ σ H => W (.ref C) none σ H
section
variable {X : Cx} {C : Addr} {W : WX} {x m : Str} {j : Nat} {p p2 pos pos2 : Pos}
theorem q_raise (hc : X.calm = true) (tk : Takes X W) (F : ExF X.K X.mg x C) (hg : Gl X x) (hdb : (x == ("__debug__" : Str)) = false := by decide) : PS X (.Raise (some (.Call (.Name x p) [.Constant (.str m) j p2] [] pos)) none pos2) (tRaiseC C W) :=
  ps_raise hc tk (pmk_own PySem.F.excBase_ValueError F.xq F.g F.k (raises_own F.b F.t) hg hdb)
end
theorem g_raise {C : Addr} {W : WX} {D : Ends} {σ : L2.St} {H : Hp} (k : W (.ref C) none σ H) : tRaiseC C W D σ H := k
/-- the text's facts of a def of the module -/
structure FnF (K : PySem.W.Frag) (mg : Str → Option Value) (x : Str) (st : Stmt) (ps : List Str) where
  a : Addr
  d : FuncData
  F : Fun K x x st a d
  g : mg x = some (.ref a)
  b : Binds K d ps []
/-- .. of a method of the class at C -/
structure MeF (K : PySem.W.Frag) (C : Addr) (m qual : Str) (st : Stmt) (ps : List Str) where
  a : Addr
  d : FuncData
  F : Fun K m qual st a d
  m : Meth K C m a
  b : Binds K d ps []
/-- .. of a method whose last parameter may be left out (None then) -/
structure MdF (K : PySem.W.Frag) (C : Addr) (m qual : Str) (st : Stmt) (ps : List Str) where
  a : Addr
  d : FuncData
  F : FunD K m qual (defArgs st) (defBody st) (defScope st) [.non] [] a d
  m : Meth K C m a
  b : Binds K d ps []
  b1 : ∃ ds, Vals [.non] ds ∧ Binds K d ps ds
section
variable {P : Program} {w : World} {K : PySem.W.Frag} {mg : Str → Option Value} {base : Heap} {x m qual : Str} {st : Stmt} {ps N : List Str} {C : Addr} {k : Nat} {sp : Sp}
theorem FnF.cl (F : FnF K mg x st ps) (S : FnScope N ps (defScope st)) (len : ∀ vs H Q E, sp vs H Q E → vs.length = ps.length)
    (hbody : ∀ (cdv : Value) (A : Around) (outer : List Env) (s : Shared) (H : Hp) (vs : List V) (Q : VK) (E : XK), Room k (A.deeper (envOfC x (defScope st) s.heap.objs.size F.a cdv)) → sp vs H Q E →
      ∃ t, PSs (cxOf (L2.CX P w) P w K mg base N x (defScope st) F.a cdv A outer s H E) (defBody st) t ∧ t { nx := fun _ H' => Q .non H', rt := Q } (start N vs) H) : Cl P w K mg base (k + 1) x sp [] :=
  ⟨F.a, F.d, ps, [], F.F.okX S len hbody, F.g, F.F.kp, F.b, .nil⟩
theorem MeF.me (F : MeF K C m qual st ps) (c : Cls K C) (S : FnScope N ps (defScope st)) (len : ∀ vs H Q E, sp vs H Q E → vs.length = ps.length)
    (hbody : ∀ (cdv : Value) (A : Around) (outer : List Env) (s : Shared) (H : Hp) (vs : List V) (Q : VK) (E : XK), Room k (A.deeper (envOfC qual (defScope st) s.heap.objs.size F.a cdv)) → sp vs H Q E →
      ∃ t, PSs (cxOf (L2.CX P w) P w K mg base N qual (defScope st) F.a cdv A outer s H E) (defBody st) t ∧ t { nx := fun _ H' => Q .non H', rt := Q } (start N vs) H) : Me P w K mg base (k + 1) C m sp [] :=
  ⟨F.a, F.d, ps, [], c, F.m, F.F.okX S len hbody, F.b, .nil⟩
theorem MdF.ok (F : MdF K C m qual st ps) (S : FnScope N ps (defScope st)) (len : ∀ vs H Q E, sp vs H Q E → vs.length = ps.length)
    (hbody : ∀ (cdv : Value) (A : Around) (outer : List Env) (s : Shared) (H : Hp) (vs : List V) (Q : VK) (E : XK), Room k (A.deeper (envOfC qual (defScope st) s.heap.objs.size F.a cdv)) → sp vs H Q E →
      ∃ t, PSs (cxOf (L2.CX P w) P w K mg base N qual (defScope st) F.a cdv A outer s H E) (defBody st) t ∧ t { nx := fun _ H' => Q .non H', rt := Q } (start N vs) H) : FnOk P w K mg base (L2.CX P w) (k + 1) F.a F.d ps sp :=
  F.F.ok S len hbody
theorem MdF.me (F : MdF K C m qual st ps) (c : Cls K C) (h : FnOk P w K mg base (L2.CX P w) k F.a F.d ps sp) : Me P w K mg base k C m sp [] := ⟨F.a, F.d, ps, [], c, F.m, h, F.b, .nil⟩
theorem MdF.me1 (F : MdF K C m qual st ps) (c : Cls K C) (h : FnOk P w K mg base (L2.CX P w) k F.a F.d ps sp) : Me P w K mg base k C m sp [.non] := by
  obtain ⟨ds, v, b⟩ := F.b1
  exact ⟨F.a, F.d, ps, ds, c, F.m, h, b, v⟩
end
end Fk

set_option maxRecDepth 100000
namespace Fk
open PySem PySem.Spec PyProof.Rows L2
/-! ### constants of the module -/
theorem q_const {X : Cx} {x : Str} {i : Int} {pos : Pos} (h : ∃ t, X.mg x = some (.int i t)) (hg : Gl X x) (hd : (x == ("__debug__" : Str)) = false := by decide) : PE X (.Name x pos) (tC (.int i)) := by
  obtain ⟨t, h⟩ := h
  exact pe_glob hg h ⟨t, rfl⟩ hd
/-! ### rules with the written part named -/
section
variable {X : Cx} (K : PySem.W.Frag)
theorem ixL (e : X.K = K := by rfl) : IxR X (rIxL K) := e ▸ ix_list
theorem ixT (e : X.K = K := by rfl) : IxR X (rIxT K) := e ▸ ix_tup
theorem slL (e : X.K = K := by rfl) : SlR X (rSlL K) := e ▸ sl_list
theorem slT (e : X.K = K := by rfl) : SlR X (rSlT K) := e ▸ sl_tup
theorem opIn (e : X.K = K := by rfl) : OpR X (compareOp .In) (rIn K false) := e ▸ op_in_seq
theorem opNin (e : X.K = K := by rfl) : OpR X (compareOp .NotIn) (rIn K true) := e ▸ op_notIn_seq
theorem opEqD (hu : X.A.units + 64 < cLine) (e : X.K = K := by rfl) : OpR X (compareOp .Eq) (rEqD K) := e ▸ op_eqD hu
theorem opNeD (hu : X.A.units + 64 < cLine) (e : X.K = K := by rfl) : OpR X (compareOp .NotEq) (rNeD K) := e ▸ op_neD hu
theorem opCatT (e : X.K = K := by rfl) : OpR X (binaryOp .Add) (rCatT K) := e ▸ op_catT
theorem cLen (e : X.K = K := by rfl) : CallR X (.builtin "len") (rLen K) := e ▸ c_len
theorem cList (e : X.K = K := by rfl) : CallR X (.type "list") (rListOf K) := e ▸ c_list
theorem cTuple (e : X.K = K := by rfl) : CallR X (.type "tuple") (rTupOf K) := e ▸ c_tuple
theorem fldK {e : Expr} {f : Str} {pos : Pos} {ta : TE} (he : PE X e ta) (hb : attributeBase e f X.env (eval e X.env) = eval e X.env) (ek : X.K = K := by rfl) : PE X (.Attribute e f pos) (tFld K ta f) := ek ▸ pe_fld he hb
theorem piL {tg l : Expr} {tl : TE} (hl : PE X l tl) (e : X.K = K := by rfl) : PI X tg l (iList K tl) := e ▸ pi_list hl
theorem piT {tg l : Expr} {tl : TE} (hl : PE X l tl) (e : X.K = K := by rfl) : PI X tg l (iTup K tl) := e ▸ pi_tup hl
theorem pgT (n : Nat) {es : List Expr} {k : Nat} {t : TGs} {pos : Pos} (hc : X.calm = true) (h : PGs X es t) (e : X.K = K := by rfl)
    (hn : (assignEach es X.env).length = n := by rfl) (hst : (assignEach es X.env).findIdx? (·.1) = none := by rfl) : PG X (.Tuple es k pos) (gTup K n t) := e ▸ pg_tup hc h hn hst
theorem bmK0 {o : Expr} {to : TE} {name : Str} {apos cpos : Pos} {T id : String} {r : V → List V → Hp → VK → Prop} (pa : PlainAttrs T) (slot : Slot T name id) (hty : typeOf (.builtin id) = pure (.type "method_descriptor")) (hm : MtR X id r) (ho : PE X o to) (ek : X.K = K := by rfl)
    (hbase : attributeBase o name X.env (eval o X.env) = eval o X.env := by rfl) (hline : (apos.endLine == cpos.line) = true := by rfl) : PE X (.Call (.Attribute o name apos) [] [] cpos) (tBM0 K T r to) := ek ▸ pe_bm0 pa slot hty hm ho hbase hline
theorem bmK {o e : Expr} {es : List Expr} {to : TE} {t : TA} {name : Str} {apos cpos : Pos} {T id : String} {r : V → List V → Hp → VK → Prop} (pa : PlainAttrs T) (slot : Slot T name id) (hty : typeOf (.builtin id) = pure (.type "method_descriptor")) (hm : MtR X id r) (ho : PE X o to) (ha : PA X (e :: es) t) (ek : X.K = K := by rfl)
    (hbase : attributeBase o name X.env (eval o X.env) = eval o X.env := by rfl)
    (hfew : ((backTo cpos (starEach (e :: es) X.env)).all (fun x => !x.1) && (backToKw cpos (keywordEach [] X.env)).all (fun x => x.1.isSome)
      && decide ((e :: es).length + ([] : List Keyword).length + (if ([] : List Keyword).isEmpty then 0 else 1) < 30)) = true := by rfl)
    (hline : (apos.endLine == cpos.line) = true := by rfl) (hs : starEach (e :: es) X.env = (false, eval e X.env) :: starEach es X.env := by rfl) (hplain : (backTo cpos (starEach es X.env)).any (·.1) = false := by rfl) :
    PE X (.Call (.Attribute o name apos) (e :: es) [] cpos) (tBM K T r to t) := ek ▸ pe_bm pa slot hty hm ho ha hbase hfew hline hs hplain
theorem psFld {o value : Expr} {f : Str} {pos pos' : Pos} {ta tv : TE} (ha : PE X o ta) (hv : PE X value tv) (hs : swapsWith value (some (.Attribute o f pos')) pos.line X.env = pure false) (ek : X.K = K := by rfl) : PS X (.Assign [.Attribute o f pos'] value pos) (sFld K ta tv f) := ek ▸ ps_fld ha hv hs
end
/-! ### numbers that are great, but not too great -/
theorem mulS {i j : Int} (hi : i.natAbs < 2 ^ 1000) (hj : j.natAbs < 2 ^ 1000) : CMulW i j := wide_mul hi hj (by omega) (by omega) (by omega)
theorem divS {i j : Int} (h : 0 < j) (hj : j.natAbs < 2 ^ 1000) : CDivW i j := wide_div h hj (by omega) (by omega)
/-! ### cells -/
/-- the i-th cell -/
def cl (cs : List Int) (i : Nat) : Int := cs.getD i 0
theorem cl_at {cs : List Int} {i : Nat} (h : i < cs.length) : (cs.map V.int)[i]? = some (.int (cl cs i)) := by
  rw [List.getElem?_map, List.getElem?_eq_getElem h]
  simp [cl, List.getD, h]
theorem cl_atE {cs : List Int} {i : Int} {n : Nat} (e : i = (n : Int)) (h : n < cs.length) : atI (cs.map V.int) i = some (.int (cl cs n)) := by
  subst e; exact atI_nat (cl_at h)
section
variable {K : PySem.W.Frag} {σ σ' : L2.St} {H : Hp} {Q : VK} {QA : List V → Hp → Prop} {D : Ends} {v x y : V} {R : It → Hp → Prop}
def kPar (i j : Nat) (D : Ends) (σ : L2.St) : List V → Hp → Prop := fun vs H1 => ∃ v w, vs = [v, w] ∧ D.nx ((σ.set i (some v)).set j (some w)) H1
theorem g_par {i j : Nat} {ta : TA} (k : ta σ H (kPar i j D σ)) : tPar i j ta D σ H := k
theorem g_kPar {i j : Nat} (k : D.nx ((σ.set i (some x)).set j (some y)) H) : kPar i j D σ [x, y] H := ⟨x, y, rfl, k⟩
/-! ### what is walked -/
def kR1 (R : It → Hp → Prop) : List V → Hp → Prop := fun vs H1 => ∃ j : Int, vs = [.int j] ∧ -(2 ^ 62) ≤ j ∧ j < 2 ^ 62 ∧ R (Itr 0 j.toNat) H1
theorem g_iR1 {ta : TA} (k : ta σ H (kR1 R)) : iRng1 ta σ H R := k
theorem g_kR1 {n : Int} (h0 : 0 ≤ n) (h1 : n ≤ 100000) (k : R (Itr 0 n.toNat) H) : kR1 R [.int n] H := ⟨n, rfl, by omega, by omega, k⟩
def kR2 (R : It → Hp → Prop) : List V → Hp → Prop := fun vs H1 => ∃ i j : Int, vs = [.int i, .int j] ∧ (-(2 ^ 62) ≤ i ∧ i < 2 ^ 62 ∧ -(2 ^ 62) ≤ j ∧ j < 2 ^ 62) ∧ R (Itr i (j - i).toNat) H1
theorem g_iR2 {ta : TA} (k : ta σ H (kR2 R)) : iRng2 ta σ H R := k
theorem g_kR2 {i j : Int} (h0 : -100000 ≤ i) (h1 : i ≤ 100000) (h2 : -100000 ≤ j) (h3 : j ≤ 100000) (k : R (Itr i (j - i).toNat) H) : kR2 R [.int i, .int j] H := ⟨i, j, rfl, ⟨by omega, by omega, by omega, by omega⟩, k⟩
def kL (K : PySem.W.Frag) (R : It → Hp → Prop) : VK := fun x H1 => ∃ a, x = .ref a ∧ (∃ xs, SqL K H1 a xs) ∧ R (Itl K a) H1
theorem g_iL {tl : TE} (k : tl σ H (kL K R)) : iList K tl σ H R := k
theorem g_kL {a : Addr} {xs : List V} (h : SqL K H a xs) (k : R (Itl K a) H) : kL K R (.ref a) H := ⟨a, rfl, ⟨xs, h⟩, k⟩
/-! ### for -/
def kFor (g : TG) (tb : TS) (D : Ends) (σ : L2.St) : It → Hp → Prop := fun J H1 => ∃ W : Nat → Nat → L2.St → Hp → Prop, (∃ m, W 0 m σ H1) ∧ ∀ i m σ H, W i m σ H →
  (J.stop i H ∧ D.nx σ H) ∨ (J.go i H ∧ ∃ N : L2.St → Hp → Prop, (∀ σ' H', N σ' H' → ∃ m', m' < m ∧ W (i + 1) m' σ' H') ∧ ∀ x H', J.yld i H x H' → g x σ H' fun σ2 H2 => tb { D with nx := N, ct := N, bk := D.nx } σ2 H2)
theorem g_for {wi : TI} {g : TG} {tb : TS} (k : wi σ H (kFor g tb D σ)) : tFor wi g tb D σ H := k
theorem g_forR {lo : Int} {n : Nat} {g : TG} {tb : TS} (Pv : Nat → L2.St → Hp → Prop) (h0 : Pv 0 σ H)
    (hs : ∀ i σ H, i < n → Pv i σ H → g (.int (lo + i)) σ H fun σ2 H2 => tb { D with nx := Pv (i + 1), ct := Pv (i + 1), bk := D.nx } σ2 H2) (hd : ∀ σ H, Pv n σ H → D.nx σ H) : kFor g tb D σ (Itr lo n) H :=
  for_range Pv h0 hs hd
theorem g_forL {a : Addr} {xs : List V} {g : TG} {tb : TS} (Pv : Nat → L2.St → Hp → Prop) (h0 : Pv 0 σ H) (hl : ∀ i σ H, i ≤ xs.length → Pv i σ H → SqL K H a xs)
    (hs : ∀ i x σ H, xs[i]? = some x → Pv i σ H → g x σ H fun σ2 H2 => tb { D with nx := Pv (i + 1), ct := Pv (i + 1), bk := D.nx } σ2 H2) (hd : ∀ σ H, Pv xs.length σ H → D.nx σ H) : kFor g tb D σ (Itl K a) H :=
  for_list Pv h0 hl hs hd
/-! ### comprehensions -/
def kLc (g : TG) (tt : TT) (te : TE) (vs : List Nat) (σ : L2.St) (Q : VK) : It → Hp → Prop := fun J H1 => ∀ D, H1 D = none → ∃ W : Nat → Nat → Hp → Prop, (∃ m, W 0 m (upd H1 D (.lst []))) ∧ ∀ i m H, W i m H →
  (J.stop i H ∧ Q (.ref D) H) ∨ (J.go i H ∧ ∃ Nx : Hp → Prop, (∀ H', Nx H' → ∃ m', m' < m ∧ W (i + 1) m' H') ∧ ∀ x H', J.yld i H x H' → g x (wipe σ vs) H' fun σ2 H2 => wipe σ2 vs = wipe σ vs ∧ tt σ2 H2 fun b H3 =>
    if b = true then te σ2 H3 fun y H4 => ∃ acc, H4 D = some (.lst acc) ∧ acc.length < sizeLine ∧ Nx (upd H4 D (.lst (acc ++ [y]))) else Nx H3)
theorem g_lc {wi : TI} {g : TG} {tt : TT} {te : TE} {vs : List Nat} (k : wi σ H (kLc g tt te vs σ Q)) : tLc wi g tt te vs σ H Q := k
theorem upd_Mx {H H' : Hp} {p : Addr} {o : HO} (h : H p = none) (m : Mx [] H H') : Mx [] H (upd H' p o) := fun a u e _ => by
  rw [upd_ne (ne_of_none e h)]; exact m a u e (by simp)
theorem range_fm {α : Type} (f : Nat → Option α) (i : Nat) : (List.range (i + 1)).filterMap f = (List.range i).filterMap f ++ (match f i with | some y => [y] | none => []) := by
  rw [List.range_succ, List.filterMap_append]
  congr 1
  cases h : f i <;> simp [List.filterMap, h]
theorem fm_len {α : Type} (f : Nat → Option α) (n : Nat) : ((List.range n).filterMap f).length ≤ n := by
  refine Nat.le_trans (List.length_filterMap_le _ _) ?_
  rw [List.length_range]; exact Nat.le_refl _
/-- one turn's test and item, nothing written -/
def LcTurn (tt : TT) (te : TE) (σ : L2.St) (H : Hp) (o : Option V) : Prop := tt σ H fun b H2 => if b = true then te σ H2 fun y H3 => Mx [] H H3 ∧ o = some y else Mx [] H H2 ∧ o = none
/-- readings are monotone in what is wanted: the two that the turn asks -/
structure Mono (tt : TT) (te : TE) : Prop where
  t : ∀ σ H (Q Q' : Bool → Hp → Prop), (∀ b H', Q b H' → Q' b H') → tt σ H Q → tt σ H Q'
  e : ∀ σ H (Q Q' : VK), (∀ v H', Q v H' → Q' v H') → te σ H Q → te σ H Q'
/-- over a range: the turn is shown for whatever it is to reach -/
theorem g_lcR {lo : Int} {n j : Nat} {tt : TT} {te : TE} {vs : List Nat} (f : Nat → Option V) (hw : ∀ x, wipe ((wipe σ vs).set j (some x)) vs = wipe σ vs) (hn : n ≤ 50000)
    (hs : ∀ (i : Nat) (H' : Hp) (QN : Option V → Hp → Prop), i < n → Mx [] H H' → (∀ o H3, Mx [] H' H3 → o = f i → QN o H3) →
      tt ((wipe σ vs).set j (some (.int (lo + i)))) H' fun b H3 => if b = true then te ((wipe σ vs).set j (some (.int (lo + i)))) H3 fun y H4 => QN (some y) H4 else QN none H3)
    (hd : ∀ Dl H', H Dl = none → Mx [] H H' → H' Dl = some (.lst ((List.range n).filterMap f)) → Q (.ref Dl) H') : kLc (gName j) tt te vs σ Q (Itr lo n) H := by
  intro Dl hDl
  refine lc_range (fun i H' => Mx [] H H' ∧ H' Dl = some (.lst ((List.range i).filterMap f))) ⟨.new hDl, upd_same⟩ (fun i H' hi hp => ?_) (fun H' hp => hd Dl H' hDl hp.1 hp.2)
  obtain ⟨m, e⟩ := hp
  refine ⟨hw _, ?_⟩
  have key := hs i H' (fun o H3 => match o with
    | some y => ∃ acc, H3 Dl = some (.lst acc) ∧ acc.length < sizeLine ∧ (Mx [] H (upd H3 Dl (.lst (acc ++ [y]))) ∧ upd H3 Dl (.lst (acc ++ [y])) Dl = some (.lst ((List.range (i + 1)).filterMap f)))
    | none => Mx [] H H3 ∧ H3 Dl = some (.lst ((List.range (i + 1)).filterMap f))) hi m ?_
  · exact key
  · intro o H3 m3 eo
    cases o with
    | some y =>
      refine ⟨_, m3.get0 e, lineL (Nat.lt_of_le_of_lt (fm_len f i) (by omega)), upd_Mx hDl (m.trans m3), ?_⟩
      rw [upd_same, range_fm, ← eo]
    | none =>
      refine ⟨m.trans m3, ?_⟩
      rw [range_fm, ← eo, List.append_nil]
      exact m3.get0 e
/-- over a list -/
theorem g_lcL {a : Addr} {xs : List V} {j : Nat} {tt : TT} {te : TE} {vs : List Nat} (f : Nat → Option V) (hw : ∀ x, wipe ((wipe σ vs).set j (some x)) vs = wipe σ vs) (hn : xs.length ≤ 50000) (hx : SqL K H a xs)
    (hs : ∀ (i : Nat) (x : V) (H' : Hp) (QN : Option V → Hp → Prop), xs[i]? = some x → Mx [] H H' → (∀ o H3, Mx [] H' H3 → o = f i → QN o H3) →
      tt ((wipe σ vs).set j (some x)) H' fun b H3 => if b = true then te ((wipe σ vs).set j (some x)) H3 fun y H4 => QN (some y) H4 else QN none H3)
    (hd : ∀ Dl H', H Dl = none → Mx [] H H' → H' Dl = some (.lst ((List.range xs.length).filterMap f)) → Q (.ref Dl) H') : kLc (gName j) tt te vs σ Q (Itl K a) H := by
  intro Dl hDl
  refine lc_list (xs := xs) (fun i H' => i ≤ xs.length ∧ Mx [] H H' ∧ H' Dl = some (.lst ((List.range i).filterMap f))) ⟨Nat.zero_le _, .new hDl, upd_same⟩ (fun i H' _ hp => hp.2.1.sqL0 hx) (fun i x H' hi hp => ?_) (fun H' hp => hd Dl H' hDl hp.2.1 hp.2.2)
  obtain ⟨le, m, e⟩ := hp
  have lt : i < xs.length := (List.getElem?_eq_some_iff.mp hi).1
  refine ⟨hw _, ?_⟩
  have key := hs i x H' (fun o H3 => match o with
    | some y => ∃ acc, H3 Dl = some (.lst acc) ∧ acc.length < sizeLine ∧ (i + 1 ≤ xs.length ∧ Mx [] H (upd H3 Dl (.lst (acc ++ [y]))) ∧ upd H3 Dl (.lst (acc ++ [y])) Dl = some (.lst ((List.range (i + 1)).filterMap f)))
    | none => i + 1 ≤ xs.length ∧ Mx [] H H3 ∧ H3 Dl = some (.lst ((List.range (i + 1)).filterMap f))) hi m ?_
  · exact key
  · intro o H3 m3 eo
    cases o with
    | some y =>
      refine ⟨_, m3.get0 e, lineL (Nat.lt_of_le_of_lt (fm_len f i) (by omega)), lt, upd_Mx hDl (m.trans m3), ?_⟩
      rw [upd_same, range_fm, ← eo]
    | none =>
      refine ⟨lt, m.trans m3, ?_⟩
      rw [range_fm, ← eo, List.append_nil]
      exact m3.get0 e
end
end Fk

set_option maxRecDepth 100000
namespace Fk
open PySem PySem.Spec PyProof.Rows L2
end Fk
namespace L2
open PySem PySem.Spec PyProof.Rows Fk
/-! ### data on the heap -/
mutual
theorem Dp.mx {K : PySem.W.Frag} {H H' : Hp} (m : Mx [] H H') : ∀ {v : V} {d : PyData}, Dp K H v d → Dp K H' v d
  | _, _, .non => .non
  | _, _, .bl b => .bl b
  | _, _, .int i => .int i
  | _, _, .str x => .str x
  | _, _, .lst h a => .lst (m.sqL0 h) (DpAll.mx m a)
  | _, _, .tup h a => .tup (m.sqT0 h) (DpAll.mx m a)
theorem DpAll.mx {K : PySem.W.Frag} {H H' : Hp} (m : Mx [] H H') : ∀ {vs : List V} {ds : List PyData}, DpAll K H vs ds → DpAll K H' vs ds
  | _, _, .nil => .nil
  | _, _, .cons h r => .cons (Dp.mx m h) (DpAll.mx m r)
end
end L2
namespace Fk
open PySem PySem.Spec PyProof.Rows L2
mutual
/-- no list within -/
def frz : PyData → Bool
  | .none | .bool _ | .int _ | .str _ => true
  | .tuple xs => frzAll xs
  | .list _ | .dict _ => false
def frzAll : List PyData → Bool
  | [] => true
  | x :: xs => frz x && frzAll xs
end
/-- what is written are no tuples -/
def NoTup (H : Hp) (S : List Addr) : Prop := ∀ x ∈ S, ∀ u, H x = some u → (∀ ys, u ≠ .tup ys) ∧ ∀ o w, u ≠ .frz o w
theorem Mx.sqTw {K : PySem.W.Frag} {S : List Addr} {H H' : Hp} {a : Addr} {xs : List V} (m : Mx S H H') (n : NoTup H S) (h : SqT K H a xs) : SqT K H' a xs := by
  rcases h with (h | ⟨o, h⟩) | h
  · exact .inl (.inl (m a _ h fun z => (n a z _ h).1 xs rfl))
  · exact .inl (.inr ⟨o, m a _ h fun z => (n a z _ h).2 _ _ rfl⟩)
  · exact .inr h
end Fk
namespace L2
open PySem PySem.Spec PyProof.Rows Fk
mutual
theorem Dp.mxT {K : PySem.W.Frag} {S : List Addr} {H H' : Hp} (m : Mx S H H') (n : NoTup H S) : ∀ {v : V} {d : PyData}, frz d = true → Dp K H v d → Dp K H' v d
  | _, _, _, .non => .non
  | _, _, _, .bl b => .bl b
  | _, _, _, .int i => .int i
  | _, _, _, .str x => .str x
  | _, _, f, .lst h a => by simp [frz] at f
  | _, _, f, .tup h a => .tup (m.sqTw n h) (DpAll.mxT m n (by simpa [frz] using f) a)
theorem DpAll.mxT {K : PySem.W.Frag} {S : List Addr} {H H' : Hp} (m : Mx S H H') (n : NoTup H S) : ∀ {vs : List V} {ds : List PyData}, frzAll ds = true → DpAll K H vs ds → DpAll K H' vs ds
  | _, _, _, .nil => .nil
  | v :: vs, d :: ds, f, .cons h r => by
    have q : frz d = true ∧ frzAll ds = true := by simpa [frzAll] using f
    exact .cons (Dp.mxT m n q.1 h) (DpAll.mxT m n q.2 r)
end
theorem DpAll.len {K : PySem.W.Frag} {H : Hp} : ∀ {vs : List V} {ds : List PyData}, DpAll K H vs ds → vs.length = ds.length
  | _, _, .nil => rfl
  | _, _, .cons _ r => by simp [DpAll.len r]
theorem DpAll.app {K : PySem.W.Frag} {H : Hp} : ∀ {vs ws : List V} {ds es : List PyData}, DpAll K H vs ds → DpAll K H ws es → DpAll K H (vs ++ ws) (ds ++ es)
  | _, _, _, _, .nil, q => q
  | _, _, _, _, .cons h r, q => .cons h (DpAll.app r q)
theorem DpAll.get {K : PySem.W.Frag} {H : Hp} : ∀ {vs : List V} {ds : List PyData} {i : Nat} {d : PyData}, DpAll K H vs ds → ds[i]? = some d → ∃ v, vs[i]? = some v ∧ Dp K H v d
  | _, _, _, _, .nil, e => by simp at e
  | _, _, 0, _, .cons h _, e => by simp at e; subst e; exact ⟨_, rfl, h⟩
  | _, _, i + 1, _, .cons _ r, e => by
    obtain ⟨v, h1, h2⟩ := DpAll.get (i := i) r (by simpa using e)
    exact ⟨v, by simpa using h1, h2⟩
theorem DpAll.get' {K : PySem.W.Frag} {H : Hp} : ∀ {vs : List V} {ds : List PyData} {i : Nat} {v : V}, DpAll K H vs ds → vs[i]? = some v → ∃ d, ds[i]? = some d ∧ Dp K H v d
  | _, _, _, _, .nil, e => by simp at e
  | _, _, 0, _, .cons h _, e => by simp at e; subst e; exact ⟨_, rfl, h⟩
  | _, _, i + 1, _, .cons _ r, e => by
    obtain ⟨v, h1, h2⟩ := DpAll.get' (i := i) r (by simpa using e)
    exact ⟨v, by simpa using h1, h2⟩
theorem DpAll.take {K : PySem.W.Frag} {H : Hp} : ∀ {vs : List V} {ds : List PyData} (n : Nat), DpAll K H vs ds → DpAll K H (vs.take n) (ds.take n)
  | _, _, 0, _ => by simp; exact .nil
  | _, _, n + 1, .nil => by simp; exact .nil
  | _, _, n + 1, .cons h r => by simp; exact .cons h (DpAll.take n r)
theorem DpAll.drop {K : PySem.W.Frag} {H : Hp} : ∀ {vs : List V} {ds : List PyData} (n : Nat), DpAll K H vs ds → DpAll K H (vs.drop n) (ds.drop n)
  | _, _, 0, h => by simpa using h
  | _, _, n + 1, .nil => by simp; exact .nil
  | _, _, n + 1, .cons h r => by simpa using DpAll.drop n r
theorem DpAll.ints {K : PySem.W.Frag} {H : Hp} : ∀ ns : List Int, DpAll K H (ns.map V.int) (ns.map PyData.int)
  | [] => .nil
  | n :: r => .cons (.int n) (DpAll.ints r)
theorem Dp.ints {K : PySem.W.Frag} {H : Hp} {a : Addr} {ns : List Int} (h : SqL K H a (ns.map V.int)) : Dp K H (.ref a) (.list (ns.map PyData.int)) := .lst h (DpAll.ints ns)
end L2
namespace Fk
open PySem PySem.Spec PyProof.Rows L2
/-! ### data that == tells apart as it is -/
theorem lay_ints : ∀ ns : List Int, PyData.canLayAll0 (ns.map PyData.int) = true
  | [] => rfl
  | n :: r => by simp [PyData.canLayAll0, PyData.canLay0, lay_ints r]
theorem dep_ints : ∀ ns : List Int, PyData.depthAll (ns.map PyData.int) = 0
  | [] => rfl
  | n :: r => by simp [PyData.depthAll, PyData.depth, dep_ints r]
theorem shaped_ints (ns : List Int) : SeqAt.shaped (.list (ns.map PyData.int)) = true := by
  simp [SeqAt.shaped, PyData.canLay0, lay_ints, PyData.depth, dep_ints]
theorem eqv_ints : ∀ xs ys : List Int, PyData.eqvAll (xs.map PyData.int) (ys.map PyData.int) = decide (xs = ys)
  | [], [] => rfl
  | [], _ :: _ => by simp [PyData.eqvAll]
  | _ :: _, [] => by simp [PyData.eqvAll]
  | x :: xs, y :: ys => by
    simp only [List.map_cons, PyData.eqvAll, PyData.eqv, eqv_ints xs ys]
    by_cases h : x = y <;> simp [h]
/-- a stamp, a tuple of two -/
def stD (s : Int × Int) : PyData := .tuple [.int s.1, .int s.2]
theorem lay_sts : ∀ ns : List (Int × Int), PyData.canLayAll0 (ns.map stD) = true
  | [] => rfl
  | n :: r => by simp [PyData.canLayAll0, PyData.canLay0, stD, lay_sts r]
theorem dep_sts : ∀ ns : List (Int × Int), PyData.depthAll (ns.map stD) ≤ 1
  | [] => by simp [PyData.depthAll]
  | n :: r => by have := dep_sts r; simp [PyData.depthAll, PyData.depth, stD]; omega
theorem shaped_sts (ns : List (Int × Int)) : SeqAt.shaped (.list (ns.map stD)) = true := by
  have := dep_sts ns
  simp [SeqAt.shaped, PyData.canLay0, lay_sts, PyData.depth]
  omega
theorem eqv_sts : ∀ xs ys : List (Int × Int), PyData.eqvAll (xs.map stD) (ys.map stD) = decide (xs = ys)
  | [], [] => rfl
  | [], _ :: _ => by simp [PyData.eqvAll]
  | _ :: _, [] => by simp [PyData.eqvAll]
  | x :: xs, y :: ys => by
    obtain ⟨a, b⟩ := x; obtain ⟨c, d⟩ := y
    simp only [List.map_cons, PyData.eqvAll, PyData.eqv, eqv_sts xs ys, stD]
    by_cases h : a = c <;> by_cases h' : b = d <;> simp [h, h']
theorem frz_sts : ∀ ns : List (Int × Int), frzAll (ns.map stD) = true
  | [] => rfl
  | n :: r => by simp [frzAll, frz, stD, frz_sts r]
theorem frz_ints : ∀ ns : List Int, frzAll (ns.map PyData.int) = true
  | [] => rfl
  | n :: r => by simp [frzAll, frz, frz_ints r]
theorem _root_.L2.Dp.st {K : PySem.W.Frag} {H : Hp} {v : V} {s : Int × Int} (h : Dp K H v (stD s)) : ∃ a, v = .ref a ∧ SqT K H a [.int s.1, .int s.2] := by
  unfold stD at h
  cases h with
  | tup h a =>
    cases a with
    | cons h1 r1 => cases h1; cases r1 with
      | cons h2 r2 => cases h2; cases r2; exact ⟨_, rfl, h⟩
theorem _root_.L2.Dp.mkSt {K : PySem.W.Frag} {H : Hp} {a : Addr} {s : Int × Int} (h : SqT K H a [.int s.1, .int s.2]) : Dp K H (.ref a) (stD s) := .tup h (.cons (.int _) (.cons (.int _) .nil))
theorem noTup1 {H : Hp} {l : Addr} {xs : List V} (h : H l = some (.lst xs)) : NoTup H [l] := fun x hx u e => by
  simp at hx; subst hx; rw [h] at e; cases e; exact ⟨(fun _ z => nomatch z), (fun _ _ z => nomatch z)⟩
theorem Mx.sts {K : PySem.W.Frag} {S : List Addr} {H H' : Hp} {vs : List V} {ss : List (Int × Int)} (m : Mx S H H') (n : NoTup H S) (h : DpAll K H vs (ss.map stD)) : DpAll K H' vs (ss.map stD) := DpAll.mxT m n (frz_sts ss) h
theorem Mx.own {S : List Addr} {H H1 H2 : Hp} {p : Addr} (m : Mx S H H1) (f : H p = none) (k : Mx [p] H1 H2) : Mx S H H2 := fun a o e n =>
  k a o (m a o e n) (by simp; exact ne_of_none e f)
theorem ixE {n j : Nat} {i : Int} (e : i = (j : Int)) (h : j < n) : ixN n i = some j := by
  subst e; unfold ixN; rw [if_pos (by omega), if_pos (by omega)]; rfl
theorem g_setI {H : Hp} {p : Addr} {ns : List Int} {i z : Int} {j : Nat} {QH : Hp → Prop} (h : H p = some (.lst (ns.map V.int))) (e : i = (j : Int)) (hj : j < ns.length)
    (k : ∀ H', Mx [p] H H' → H' p = some (.lst ((ns.set j z).map V.int)) → QH H') : rSetL (.ref p) (.int i) (.int z) H QH :=
  g_setL h (ixE e (by rw [List.length_map]; exact hj)) fun H' m q => k H' m (by rw [q, List.map_set])
section
variable {K : PySem.W.Frag} {H : Hp} {Q : VK} {x y : V}
theorem g_eqD {d e : PyData} (h1 : Dp K H x d) (h2 : Dp K H y e) (s1 : SeqAt.shaped d = true) (s2 : SeqAt.shaped e = true) (k : Q (.bl (PyData.eqv d e)) H) : rEqD K x y H Q := ⟨d, e, h1, h2, s1, s2, k⟩
theorem g_neD {d e : PyData} (h1 : Dp K H x d) (h2 : Dp K H y e) (s1 : SeqAt.shaped d = true) (s2 : SeqAt.shaped e = true) (k : Q (.bl (!PyData.eqv d e)) H) : rNeD K x y H Q := ⟨d, e, h1, h2, s1, s2, k⟩
/-- two lists of ints -/
theorem g_eqI {a b : Addr} {xs ys : List Int} (h1 : SqL K H a (xs.map V.int)) (h2 : SqL K H b (ys.map V.int)) (k : Q (.bl (decide (xs = ys))) H) : rEqD K (.ref a) (.ref b) H Q :=
  g_eqD (Dp.ints h1) (Dp.ints h2) (shaped_ints xs) (shaped_ints ys) (by rw [PyData.eqv, eqv_ints]; exact k)
theorem g_neI {a b : Addr} {xs ys : List Int} (h1 : SqL K H a (xs.map V.int)) (h2 : SqL K H b (ys.map V.int)) (k : Q (.bl (!decide (xs = ys))) H) : rNeD K (.ref a) (.ref b) H Q :=
  g_neD (Dp.ints h1) (Dp.ints h2) (shaped_ints xs) (shaped_ints ys) (by rw [PyData.eqv, eqv_ints]; exact k)
theorem g_eqS {a b : Addr} {xs ys : List (Int × Int)} (h1 : Dp K H (.ref a) (.list (xs.map stD))) (h2 : Dp K H (.ref b) (.list (ys.map stD))) (k : Q (.bl (decide (xs = ys))) H) : rEqD K (.ref a) (.ref b) H Q :=
  g_eqD h1 h2 (shaped_sts xs) (shaped_sts ys) (by rw [PyData.eqv, eqv_sts]; exact k)
theorem g_neS {a b : Addr} {xs ys : List (Int × Int)} (h1 : Dp K H (.ref a) (.list (xs.map stD))) (h2 : Dp K H (.ref b) (.list (ys.map stD))) (k : Q (.bl (!decide (xs = ys))) H) : rNeD K (.ref a) (.ref b) H Q :=
  g_neD h1 h2 (shaped_sts xs) (shaped_sts ys) (by rw [PyData.eqv, eqv_sts]; exact k)
end
end Fk

set_option maxRecDepth 100000
namespace Fk
open PySem PySem.Spec PyProof.Rows L2
section
variable {K : PySem.W.Frag} {σ σ' : L2.St} {H : Hp} {Q : VK} {D : Ends} {v x y : V} {R : It → Hp → Prop}
/-! ### a dict locked while it is walked -/
theorem g_lock {t : TS} {d : Addr} {u : HO} (h : H d = some u) (mu : Mut (some u))
    (k : ∀ od H1, Mx [d] H H1 → H1 d = some (.frz od u) → t ⟨fun σ' H' => H' d = some (.frz od u) ∧ D.nx σ' (upd H' d u), fun v H' => H' d = some (.frz od u) ∧ D.rt v (upd H' d u), fun σ' H' => H' d = some (.frz od u) ∧ D.bk σ' (upd H' d u), fun σ' H' => H' d = some (.frz od u) ∧ D.ct σ' (upd H' d u)⟩ σ H1) : tLock t D σ H :=
  ⟨d, u, h, mu, fun od => k od _ (.put (by simp)) upd_same⟩
def kKeys (R : It → Hp → Prop) : VK := fun x H1 => ∃ d o, x = .ref d ∧ ((∃ kvs, H1 d = some (.frz o (.dK kvs)) ∧ R (Itk d o kvs) H1) ∨ ∃ kvs, H1 d = some (.frz o (.dT kvs)) ∧ R (Itkt d o kvs) H1)
theorem g_iK {td : TE} (k : td σ H (kKeys R)) : iKeys td σ H R := k
theorem g_kKeys {d : Addr} {o : Obj} {kvs : List (Key × V)} (h : H d = some (.frz o (.dK kvs))) (k : R (Itk d o kvs) H) : kKeys R (.ref d) H := ⟨d, o, rfl, .inl ⟨kvs, h, k⟩⟩
theorem g_forK {d : Addr} {o : Obj} {kvs : List (Key × V)} {g : TG} {tb : TS} (Pv : Nat → L2.St → Hp → Prop) (h0 : Pv 0 σ H) (hl : ∀ i σ H, Pv i σ H → H d = some (.frz o (.dK kvs)))
    (hs : ∀ i k v σ H, kvs[i]? = some (k, v) → Pv i σ H → g (kV k) σ H fun σ2 H2 => tb { D with nx := Pv (i + 1), ct := Pv (i + 1), bk := D.nx } σ2 H2) (hd : ∀ σ H, Pv kvs.length σ H → D.nx σ H) : kFor g tb D σ (Itk d o kvs) H := by
  refine ⟨fun i m σ H => Pv i σ H ∧ i + m = kvs.length, ⟨kvs.length, h0, by simp⟩, fun i m σ H ⟨p, e⟩ => ?_⟩
  have hh := hl i σ H p
  by_cases hi : i < kvs.length
  · refine .inr ⟨⟨hh, hi⟩, fun σ' H' => Pv (i + 1) σ' H', fun σ' H' q => ⟨m - 1, by omega, q, by omega⟩, fun x H' hy => ?_⟩
    obtain ⟨rfl, k, v, hk, rfl⟩ := hy
    exact hs i k v σ H' hk p
  · have : i = kvs.length := by omega
    subst this
    exact .inl ⟨⟨hh, Nat.le_refl _⟩, hd σ H p⟩
/-! ### several ways, one going on -/
theorem g_cut {te : TE} (R : VK → Prop) (h : ∀ Q' : VK, R Q' → te σ H Q') (k : R Q) : te σ H Q := h Q k
theorem g_cutT {te : TT} {Q : Bool → Hp → Prop} (R : (Bool → Hp → Prop) → Prop) (h : ∀ Q' : Bool → Hp → Prop, R Q' → te σ H Q') (k : R Q) : te σ H Q := h Q k
theorem g_cutS {t : TS} (R : (L2.St → Hp → Prop) → Prop) (h : ∀ N, R N → t { D with nx := N } σ H) (k : R D.nx) : t D σ H := h D.nx k
/-! ### comprehensions that make data -/
theorem tup_wr {H : Hp} {ws : List V} {ds : List PyData} {p : Addr} {o : HO} {us : List V} (h : H p = some (.lst us)) (f : frzAll ds = true) (d : DpAll K H ws ds) : DpAll K (upd H p o) ws ds :=
  d.mxT (.put (S := [p]) (by simp)) (noTup1 h) f
theorem frzAll_map {α : Type} {f : α → PyData} : ∀ {l : List α}, (∀ a ∈ l, frz (f a) = true) → frzAll (l.map f) = true
  | [], _ => rfl
  | a :: l, h => by
    rw [List.map_cons, frzAll, h a List.mem_cons_self, frzAll_map fun b hb => h b (List.mem_cons_of_mem _ hb)]
    rfl
theorem g_lcRD {lo : Int} {n j : Nat} {te : TE} {vs : List Nat} (ds : Nat → PyData) (fz : ∀ i, frz (ds i) = true) (hw : ∀ x, wipe ((wipe σ vs).set j (some x)) vs = wipe σ vs) (hn : n ≤ 50000)
    (hs : ∀ (i : Nat) (H' : Hp) (QN : VK), i < n → Mx [] H H' → (∀ y H3, Mx [] H' H3 → Dp K H3 y (ds i) → QN y H3) → te ((wipe σ vs).set j (some (.int (lo + i)))) H' QN)
    (hd : ∀ Dl H' ws, H Dl = none → Mx [] H H' → H' Dl = some (.lst ws) → DpAll K H' ws ((List.range n).map ds) → Q (.ref Dl) H') : kLc (gName j) tYes te vs σ Q (Itr lo n) H := by
  intro Dl hDl
  refine lc_range (fun i H' => Mx [] H H' ∧ ∃ ws, H' Dl = some (.lst ws) ∧ DpAll K H' ws ((List.range i).map ds)) ⟨.new hDl, [], upd_same, .nil⟩ (fun i H' hi hp => ?_) (fun H' hp => ?_)
  · obtain ⟨m, ws, e, d⟩ := hp
    refine ⟨hw _, ?_⟩
    show te _ H' _
    refine hs i H' _ hi m fun y H3 m3 dy => ?_
    have lw := d.len
    rw [List.length_map, List.length_range] at lw
    refine ⟨ws, m3.get0 e, lineL (by omega), upd_Mx hDl (m.trans m3), _, upd_same, ?_⟩
    rw [List.range_succ, List.map_append]
    have f1 : frzAll ((List.range i).map ds ++ [i].map ds) = true := by rw [← List.map_append]; exact frzAll_map fun a _ => fz a
    exact tup_wr (m3.get0 e) f1 ((d.mx m3).app (.cons dy .nil))
  · obtain ⟨m, ws, e, d⟩ := hp
    exact hd Dl H' ws hDl m e d
theorem g_lcLD {a : Addr} {xs : List V} {j : Nat} {te : TE} {vs : List Nat} (ds : Nat → PyData) (fz : ∀ i, frz (ds i) = true) (hw : ∀ x, wipe ((wipe σ vs).set j (some x)) vs = wipe σ vs) (hn : xs.length ≤ 50000) (hx : SqL K H a xs)
    (hs : ∀ (i : Nat) (x : V) (H' : Hp) (QN : VK), xs[i]? = some x → Mx [] H H' → (∀ y H3, Mx [] H' H3 → Dp K H3 y (ds i) → QN y H3) → te ((wipe σ vs).set j (some x)) H' QN)
    (hd : ∀ Dl H' ws, H Dl = none → Mx [] H H' → H' Dl = some (.lst ws) → DpAll K H' ws ((List.range xs.length).map ds) → Q (.ref Dl) H') : kLc (gName j) tYes te vs σ Q (Itl K a) H := by
  intro Dl hDl
  refine lc_list (xs := xs) (fun i H' => i ≤ xs.length ∧ Mx [] H H' ∧ ∃ ws, H' Dl = some (.lst ws) ∧ DpAll K H' ws ((List.range i).map ds)) ⟨Nat.zero_le _, .new hDl, [], upd_same, .nil⟩ (fun i H' _ hp => hp.2.1.sqL0 hx) (fun i x H' hi hp => ?_) (fun H' hp => ?_)
  · obtain ⟨le, m, ws, e, d⟩ := hp
    have lt : i < xs.length := (List.getElem?_eq_some_iff.mp hi).1
    refine ⟨hw _, ?_⟩
    show te _ H' _
    refine hs i x H' _ hi m fun y H3 m3 dy => ?_
    have lw := d.len
    rw [List.length_map, List.length_range] at lw
    refine ⟨ws, m3.get0 e, lineL (by omega), lt, upd_Mx hDl (m.trans m3), _, upd_same, ?_⟩
    rw [List.range_succ, List.map_append]
    have f1 : frzAll ((List.range i).map ds ++ [i].map ds) = true := by rw [← List.map_append]; exact frzAll_map fun a _ => fz a
    exact tup_wr (m3.get0 e) f1 ((d.mx m3).app (.cons dy .nil))
  · obtain ⟨_, m, ws, e, d⟩ := hp
    exact hd Dl H' ws hDl m e d
end
end Fk

set_option maxRecDepth 100000
namespace Fk
open PySem PySem.Spec PyProof.Rows L2
section
variable {X : Cx} (K : PySem.W.Frag)
theorem ixQ (e : X.K = K := by rfl) : IxR X (rIx K) := e ▸ ix_seq
theorem cIsi (e : X.K = K := by rfl) : CallR X (.builtin "isinstance") (rIsi K) := e ▸ call_isi
theorem cIsiT (e : X.K = K := by rfl) : CallR X (.builtin "isinstance") (rIsiT K) := e ▸ call_isiT
end
section
variable {K : PySem.W.Frag} {H : Hp} {Q : VK} {x v : V}
theorem g_ixQL {p : Addr} {xs : List V} {i : Int} (h : SqL K H p xs) (ha : atI xs i = some v) (k : Q v H) : rIx K (.ref p) (.int i) H Q := .inl (g_ixL h ha k)
theorem g_ixQT {p : Addr} {xs : List V} {i : Int} (h : SqT K H p xs) (ha : atI xs i = some v) (k : Q v H) : rIx K (.ref p) (.int i) H Q := .inr (.inl (g_ixT h ha k))
theorem g_isi {a b : String} {r : Bool} (ty : TyX K H x (.type a)) (e : kitB a b = some r) (k : Q (.bl r) H) : rIsi K [x, .ty b] H Q := ⟨x, .ty b, .type a, .type b, r, rfl, .ty b, ty, kit_ty e, k⟩
theorem g_isiT2 {a b c : String} {r s : Bool} {tp : Addr} (h : H tp = some (.tup [.ty b, .ty c])) (ty : TyX K H x (.type a)) (e : kitB a b = some r) (e2 : kitB a c = some s) (k : Q (.bl (r || s)) H) : rIsiT K [x, .ref tp] H Q := by
  refine ⟨x, tp, [.ty b, .ty c], .type a, [.type b, .type c], r || s, rfl, h, .cons (.ty b) (.cons (.ty c) .nil), ty, ?_, k⟩
  refine kitAny_cons (kit_ty e) (fun er => ?_) (fun er => by rw [er]; rfl)
  rw [er, Bool.false_or]
  exact kitAny_cons (kit_ty e2) (fun es => by rw [es]; exact kitAny_nil) (fun es => es)
theorem tyL {a : Addr} {xs : List V} (h : SqL K H a xs) : TyX K H (.ref a) (.type "list") := by
  rcases h with (h | ⟨o, h⟩) | ⟨o, its, n, h, c, _⟩
  · exact .base (.lst h)
  · exact .base (.frz h)
  · exact .kList h c
theorem tyT {a : Addr} {xs : List V} (h : SqT K H a xs) : TyX K H (.ref a) (.type "tuple") := by
  rcases h with (h | ⟨o, h⟩) | ⟨o, its, n, h, c, _⟩
  · exact .base (.tup h)
  · exact .fTuple h
  · exact .kTuple h c
theorem TyX.mx {t : Value} {H' : Hp} (m : Mx [] H H') (h : TyX K H x t) : TyX K H' x t := by
  cases h with
  | base h => cases h with
    | non => exact .base .non
    | bl b => exact .base (.bl b)
    | int i => exact .base (.int i)
    | str z => exact .base (.str z)
    | flt z => exact .base (.flt z)
    | lst e => exact .base (.lst (m.get0 e))
    | frz e => exact .base (.frz (m.get0 e))
    | tup e => exact .base (.tup (m.get0 e))
    | dK e => exact .base (.dK (m.get0 e))
    | dT e => exact .base (.dT (m.get0 e))
    | ins e cl ha hn htk hm => exact .base (.ins (m.get0 e) cl ha hn htk hm)
  | byt b => exact .byt b
  | set e => exact .set (m.get0 e)
  | kList e c => exact .kList e c
  | kTuple e c => exact .kTuple e c
  | kDict e c => exact .kDict e c
  | fTuple e => exact .fTuple (m.get0 e)
  | fDict e => exact .fDict (m.get0 e)
end
theorem kk_NoneType_tuple : kitB "NoneType" "tuple" = some false := by decide +kernel
theorem kk_NoneType_list : kitB "NoneType" "list" = some false := by decide +kernel
theorem kk_NoneType_str : kitB "NoneType" "str" = some false := by decide +kernel
theorem kk_NoneType_bool : kitB "NoneType" "bool" = some false := by decide +kernel
theorem kk_NoneType_int : kitB "NoneType" "int" = some false := by decide +kernel
theorem kk_bool_tuple : kitB "bool" "tuple" = some false := by decide +kernel
theorem kk_bool_list : kitB "bool" "list" = some false := by decide +kernel
theorem kk_bool_str : kitB "bool" "str" = some false := by decide +kernel
theorem kk_bool_bool : kitB "bool" "bool" = some true := by decide +kernel
theorem kk_bool_int : kitB "bool" "int" = some true := by decide +kernel
theorem kk_int_tuple : kitB "int" "tuple" = some false := by decide +kernel
theorem kk_int_list : kitB "int" "list" = some false := by decide +kernel
theorem kk_int_str : kitB "int" "str" = some false := by decide +kernel
theorem kk_int_bool : kitB "int" "bool" = some false := by decide +kernel
theorem kk_int_int : kitB "int" "int" = some true := by decide +kernel
theorem kk_str_tuple : kitB "str" "tuple" = some false := by decide +kernel
theorem kk_str_list : kitB "str" "list" = some false := by decide +kernel
theorem kk_str_str : kitB "str" "str" = some true := by decide +kernel
theorem kk_str_bool : kitB "str" "bool" = some false := by decide +kernel
theorem kk_str_int : kitB "str" "int" = some false := by decide +kernel
theorem kk_list_tuple : kitB "list" "tuple" = some false := by decide +kernel
theorem kk_list_list : kitB "list" "list" = some true := by decide +kernel
theorem kk_list_str : kitB "list" "str" = some false := by decide +kernel
theorem kk_list_bool : kitB "list" "bool" = some false := by decide +kernel
theorem kk_list_int : kitB "list" "int" = some false := by decide +kernel
theorem kk_tuple_tuple : kitB "tuple" "tuple" = some true := by decide +kernel
theorem kk_tuple_list : kitB "tuple" "list" = some false := by decide +kernel
theorem kk_tuple_str : kitB "tuple" "str" = some false := by decide +kernel
theorem kk_tuple_bool : kitB "tuple" "bool" = some false := by decide +kernel
theorem kk_tuple_int : kitB "tuple" "int" = some false := by decide +kernel
/-- the type's name of a datum -/
def tyOf : PyData → String
  | .none => "NoneType"
  | .bool _ => "bool"
  | .int _ => "int"
  | .str _ => "str"
  | .list _ => "list"
  | .tuple _ => "tuple"
  | .dict _ => "dict"
theorem Dp_ty {K : PySem.W.Frag} {H : Hp} {v : V} {d : PyData} (h : Dp K H v d) : TyX K H v (.type (tyOf d)) := by
  cases h with
  | non => exact .base .non
  | bl b => exact .base (.bl b)
  | int i => exact .base (.int i)
  | str z => exact .base (.str z)
  | lst h _ => exact tyL h
  | tup h _ => exact tyT h
end Fk

set_option maxRecDepth 100000
namespace Fk
open PySem PySem.Spec PyProof.Rows L2
theorem Room.units65 {k : Nat} {A : Around} (r : Room k A) : A.units + 65 < cLine := by have := r.un; omega
/-! ### isinstance of the error that a suite holds -/
def rIsX (K : PySem.W.Frag) (cls : Value) (d : Option Addr) (a : Addr) : List V → Hp → VK → Prop := fun xs H Q => ∃ D, cls = .ref D ∧ d = none ∧ ExcC K D ∧ rIsE K D a xs H Q
theorem cIsX {X : Cx} (K : PySem.W.Frag) {a : Addr} {oe : Obj} {cls : Value} {d : Option Addr} {pn : List (Addr × Obj)} (hz : Zc cls d oe) (hf : ∃ vs, oe.data = .fields vs) (e : X.K = K := by rfl) :
    CallR (X.suite a ((a, oe) :: pn)) (.builtin "isinstance") (rIsX K cls d a) := by
  intro pins s σ H xs us Q I r h
  obtain ⟨D, rfl, rfl, C, h⟩ := h
  subst e
  exact call_isE C hz hf pins s σ H xs us Q I r h
theorem g_isX {K : PySem.W.Frag} {D a C : Addr} {H : Hp} {Q : VK} {b : Bool} (E : ExcC K D) (h : PySem.W.kitOne K (.ref D) (.ref C) = some b) (k : Q (.bl b) H) : rIsX K (.ref D) none a [.ref a, .ref C] H Q :=
  ⟨D, rfl, rfl, E, .ref C, .ref C, b, rfl, fun _ r => r, h, k⟩
theorem g_isXt {K : PySem.W.Frag} {D a : Addr} {t : String} {H : Hp} {Q : VK} {b : Bool} (E : ExcC K D) (h : PySem.W.kitOne K (.ref D) (.type t) = some b) (k : Q (.bl b) H) : rIsX K (.ref D) none a [.ref a, .ty t] H Q :=
  ⟨D, rfl, rfl, E, .ty t, .type t, b, rfl, fun _ r => r, h, k⟩
/-! ### xs.count(y), flat items -/
def rCntF (K : PySem.W.Frag) : V → List V → Hp → VK → Prop := fun x xs H Q => ∃ (p : Addr) (ys : List V) (y : V), x = .ref p ∧ xs = [y] ∧ SqL K H p ys ∧ flatV y = true ∧ ys.all flatV = true ∧ Q (.int (ys.countP fun z => eqV z y : Nat)) H
theorem countP_eqU {y : V} : ∀ {ys : List V} {us : List Value}, Vals ys us → ys.all flatV = true → us.countP (eqU y) = ys.countP fun z => eqV z y
  | _, _, .nil, _ => rfl
  | _, _, .cons (a := a) r t, f => by
    rename_i b xs us
    have f2 : flatV a = true ∧ xs.all flatV = true := by simpa using f
    rw [List.countP_cons, List.countP_cons, countP_eqU t f2.2, eqU_of r f2.1]
theorem mtCountF {X : Cx} (K : PySem.W.Frag) (e : X.K = K := by rfl) : MtR X "list.count" (rCntF K) := by
  subst e
  intro pins s σ H x xs v us Q I rx rxs h
  obtain ⟨p, ys, y, rfl, rfl, hs, fy, fa, q⟩ := h
  cases rx
  obtain ⟨u, rfl, ru⟩ := rxs.one
  obtain ⟨its, rv, ⟨⟨cls, dd, data, sl⟩, n, ho, hc, hdn, hd⟩, hlen⟩ := I.list hs
  simp only at hc hd
  subst hc hd
  refine call_meets PySem.F.slot_list_count ⟨_, ho, rfl⟩ PySem.F.entry_list_count (PySem.F.args_list_count_2 _ _)
    (SeqAt.list_countAt p its.toArray n dd sl u (eqU y)) ⟨ho, fun z hz => mem_eqAt ru fy rv fa z (by simpa using hz), ?_⟩
  have ec : its.toArray.toList.countP (eqU y) = ys.countP fun z => eqV z y := countP_eqU rv fa
  refine ⟨.int (ys.countP (fun z => eqV z y) : Nat), H, I.tok _, ⟨s.toks, ?_⟩, q⟩
  show Value.int ((its.toArray.toList.countP (eqU y) : Nat) : Int) s.toks = Value.int ((ys.countP (fun z => eqV z y) : Nat) : Int) s.toks
  rw [ec]
theorem g_cntB {K : PySem.W.Frag} {H : Hp} {Q : VK} {p : Addr} {bs : List Bool} {n : Nat} (h : SqL K H p (bs.map V.bl)) (e : bs.count true = n) (k : Q (.int (n : Int)) H) : rCntF K (.ref p) [.bl true] H Q := by
  refine ⟨p, _, .bl true, rfl, rfl, h, rfl, by simp [flatV], ?_⟩
  have : (bs.map V.bl).countP (fun z => eqV z (.bl true)) = n := by
    rw [← e, List.count, List.countP_map]
    rfl
  rw [this]
  exact k
theorem mtIndexD {X : Cx} (K : PySem.W.Frag) (hu : X.A.units + 65 < cLine) (e : X.K = K := by rfl) : MtR X "list.index" (rIndexD K) := e ▸ mt_indexD hu
theorem bools_all {K : PySem.W.Frag} {H : Hp} : ∀ bs : List Bool, DpAll K H (bs.map V.bl) (bs.map PyData.bool)
  | [] => .nil
  | b :: r => .cons (.bl b) (bools_all r)
theorem lay_bools : ∀ ns : List Bool, PyData.canLayAll0 (ns.map PyData.bool) = true
  | [] => rfl
  | n :: r => by simp [PyData.canLayAll0, PyData.canLay0, lay_bools r]
theorem dep_bools : ∀ ns : List Bool, PyData.depthAll (ns.map PyData.bool) = 0
  | [] => rfl
  | n :: r => by simp [PyData.depthAll, PyData.depth, dep_bools r]
theorem g_ixB {K : PySem.W.Frag} {H : Hp} {Q : VK} {p : Addr} {bs : List Bool} {j : Nat} (h : SqL K H p (bs.map V.bl)) (hj : bs[j]? = some true) (hn : ∀ m, m < j → bs[m]? = some false) (k : Q (.int (j : Int)) H) : rIndexD K (.ref p) [.bl true] H Q := by
  refine ⟨p, .bl true, .bool true, bs.map PyData.bool, j, .bool true, rfl, rfl, .lst h (bools_all bs), .bl true, ?_, by decide, by rw [List.getElem?_map, hj]; rfl, rfl, fun m z hm hz => ?_, k⟩
  · simp [SeqAt.shaped, PyData.canLay0, lay_bools, PyData.depth, dep_bools]
  · rw [List.getElem?_map, hn m hm] at hz
    cases hz
    rfl
/-- the text's facts of a def that makes lambdas: its code object c, the table P of theirs -/
structure FcF (K : PySem.W.Frag) (mg : Str → Option Value) (x : Str) (st : Stmt) (ps : List Str) where
  a : Addr
  c : Addr
  P : Addr
  d : FuncData
  ex : ∃ (oc : Value) (od : Option Addr) (kV doc pm : Value) (an : Option Addr) (ct : Value) (osl : Array (Option Value)),
    d = PySem.W.fnOf x x (defArgs st) (defBody st) (defScope st) .none kV doc pm an (.ref c) ct ∧ K.lookup a = some ⟨oc, od, .func d, osl⟩ ∧ PySem.W.codeIn K (.ref c) x = true
  kp : PySem.W.keepIn K (.ref a) = true
  g : mg x = some (.ref a)
  b : Binds K d ps []
theorem FcF.ok {P : Program} {w : World} {K : PySem.W.Frag} {mg : Str → Option Value} {base : Heap} {x : Str} {st : Stmt} {ps N : List Str} {k : Nat} {sp : Sp} (F : FcF K mg x st ps) (S : FnScope N ps (defScope st)) (len : ∀ vs H Q E, sp vs H Q E → vs.length = ps.length)
    (hbody : ∀ (A : Around) (outer : List Env) (s : Shared) (H : Hp) (vs : List V) (Q : VK) (E : XK), Room k (A.deeper (envOfC x (defScope st) s.heap.objs.size F.a (.ref F.c))) → sp vs H Q E →
      ∃ t, PSs (cxOf (L2.CX P w) P w K mg base N x (defScope st) F.a (.ref F.c) A outer s H E) (defBody st) t ∧ t { nx := fun _ H' => Q .non H', rt := Q } (start N vs) H) : FnOk P w K mg base (L2.CX P w) (k + 1) F.a F.d ps sp := by
  obtain ⟨oc, od, kV, doc, pm, an, ct, osl, hd, lk, hcd⟩ := F.ex
  rw [hd] at lk ⊢
  exact fn_of lk hcd S len hbody
/-- what the text says of an error class over FE -/
structure ExI (K : PySem.W.Frag) (D FE : Addr) : Prop where
  c : ExcC K D
  sub : PySem.W.subIn K (.ref D) (.ref FE) = some true
  ve : PySem.W.kitOne K (.ref D) (.type "ValueError") = some true
theorem ExI.exm {K : PySem.W.Frag} {D FE : Addr} {mg : Str → Option Value} {x : Str} (E : ExI K D FE) (F : ExF K mg x FE) (hd : PySem.W.hasDictIn K FE = true) : PySem.W.exmOne K (.ref D) (.ref FE) = some true :=
  PySem.W.exm_ref F.b hd F.t E.sub
end Fk

set_option maxRecDepth 100000
namespace Fk
open PySem PySem.Spec PyProof.Rows L2
/-! ### the end: what the text's top leaves, fact by fact -/
section
variable {K : PySem.W.Frag} {h : Heap} {mg : Str → Option Value} {Goal : Prop}
theorem with_fn (X : K.In h) (G : h.Ns mainGlobals mg) (x : Str) (st : Stmt) (ps : List Str) {f : Addr} {od an : Option Addr} {osl : Array (Option Value)} {oc kV doc pm cdv ct : Value}
    (a : PySem.W.nsIn K mainGlobals x = some (some (.ref f))) (l : K.lookup f = some ⟨oc, od, .func (PySem.W.fnOf x x (defArgs st) (defBody st) (defScope st) .none kV doc pm an cdv ct), osl⟩) (c : PySem.W.codeIn K cdv x = true) (k : PySem.W.keepIn K (.ref f) = true)
    (b : ∀ (kV doc pm : Value) (an : Option Addr) (cdv ct : Value) (us : List Value), us.length = ps.length → bindArgs (PySem.W.fnOf x x (defArgs st) (defBody st) (defScope st) .none kV doc pm an cdv ct) ⟨us, []⟩ = pure (ps.zip us)) (g : FnF K mg x st ps → Goal) : Goal :=
  g ⟨f, _, fun_mk l c k, PySem.W.mg_of X G a, (fun_mk l c k).binds b⟩
theorem with_fc (X : K.In h) (G : h.Ns mainGlobals mg) (x : Str) (st : Stmt) (ps : List Str) {f c P : Addr} {od an : Option Addr} {osl : Array (Option Value)} {oc kV doc pm ct : Value}
    (a : PySem.W.nsIn K mainGlobals x = some (some (.ref f))) (l : K.lookup f = some ⟨oc, od, .func (PySem.W.fnOf x x (defArgs st) (defBody st) (defScope st) .none kV doc pm an (.ref c) ct), osl⟩) (ci : PySem.W.codeIn K (.ref c) x = true) (k : PySem.W.keepIn K (.ref f) = true)
    (b : ∀ (kV doc pm : Value) (an : Option Addr) (cdv ct : Value) (us : List Value), us.length = ps.length → bindArgs (PySem.W.fnOf x x (defArgs st) (defBody st) (defScope st) .none kV doc pm an cdv ct) ⟨us, []⟩ = pure (ps.zip us))
    (hd : PySem.W.codeHdIn K c P = true) (hT : h.get? P = some { cls := .none, data := .fields #[] }) (nP : K.lookup P = none)
    (g : ∀ F : FcF K mg x st ps, h.get? F.P = some { cls := .none, data := .fields #[] } → K.lookup F.P = none → PySem.W.CodeHd h F.c F.P → (∀ (s : Shared) (us : List Value), us.length = ps.length → BindsTo s F.d ⟨us, []⟩ (ps.zip us)) → Goal) : Goal :=
  g ⟨f, c, P, _, ⟨oc, od, kV, doc, pm, an, ct, osl, rfl, l, ci⟩, k, PySem.W.mg_of X G a, (fun_mk l ci k).binds b⟩ hT nP (PySem.W.codeHd_of_K X hd) fun s us hl => .of_eq (b _ _ _ _ _ _ us hl)
theorem with_me {C : Addr} (_ : Cls K C) (m qual : Str) (st : Stmt) (ps : List Str) {f : Addr} {od an : Option Addr} {osl : Array (Option Value)} {oc kV doc pm cdv ct : Value}
    (a : PySem.W.findIn K (.ref C) m = some (some (.ref f))) (i : PySem.W.isFn K (.ref f) = true) (l : K.lookup f = some ⟨oc, od, .func (PySem.W.fnOf m qual (defArgs st) (defBody st) (defScope st) .none kV doc pm an cdv ct), osl⟩) (c : PySem.W.codeIn K cdv qual = true) (k : PySem.W.keepIn K (.ref f) = true)
    (b : ∀ (kV doc pm : Value) (an : Option Addr) (cdv ct : Value) (us : List Value), us.length = ps.length → bindArgs (PySem.W.fnOf m qual (defArgs st) (defBody st) (defScope st) .none kV doc pm an cdv ct) ⟨us, []⟩ = pure (ps.zip us)) (g : MeF K C m qual st ps → Goal) : Goal :=
  g ⟨f, _, fun_mk l c k, ⟨a, i, k⟩, (fun_mk l c k).binds b⟩
theorem with_md {C : Addr} (_ : Cls K C) (m qual : Str) (st : Stmt) (ps : List Str) (n : Nat) {f T0 : Addr} {od od0 an : Option Addr} {osl osl0 : Array (Option Value)} {oc oc0 kV doc pm cdv ct : Value} {n0 : Nat}
    (a : PySem.W.findIn K (.ref C) m = some (some (.ref f))) (i : PySem.W.isFn K (.ref f) = true) (l : K.lookup f = some ⟨oc, od, .func (PySem.W.fnOf m qual (defArgs st) (defBody st) (defScope st) (.ref T0) kV doc pm an cdv ct), osl⟩) (c : PySem.W.codeIn K cdv qual = true) (k : PySem.W.keepIn K (.ref f) = true)
    (l0 : K.lookup T0 = some ⟨oc0, od0, .seq #[.none] n0, osl0⟩) (hn : n + 1 = ps.length)
    (b : ∀ (T : Addr) (kV doc pm : Value) (an : Option Addr) (cdv ct : Value) (us its : List Value), us.length = ps.length → its.length = 1 →
      ∃ k, bindArgs (PySem.W.fnOf m qual (defArgs st) (defBody st) (defScope st) (.ref T) kV doc pm an cdv ct) ⟨us, []⟩ = seqItems? (.ref T) >>= k ∧ k (some its.toArray) = pure (ps.zip (us ++ its.drop 1)))
    (b1 : ∀ (T : Addr) (kV doc pm : Value) (an : Option Addr) (cdv ct : Value) (us its : List Value), us.length = n → its.length = 1 →
      ∃ k, bindArgs (PySem.W.fnOf m qual (defArgs st) (defBody st) (defScope st) (.ref T) kV doc pm an cdv ct) ⟨us, []⟩ = seqItems? (.ref T) >>= k ∧ k (some its.toArray) = pure (ps.zip (us ++ its.drop 0)))
    (g : MdF K C m qual st ps → Goal) : Goal := by
  have F : FunD K m qual (defArgs st) (defBody st) (defScope st) [.non] [] f (PySem.W.fnOf m qual (defArgs st) (defBody st) (defScope st) (.ref T0) kV doc pm an cdv ct) :=
    ⟨⟨oc, od, _, kV, doc, pm, an, cdv, ct, osl, rfl, l, c, .inr ⟨by simp, T0, _, [.none], n0, rfl, l0, rfl, .cons rfl .nil⟩, .inl rfl⟩, k⟩
  obtain ⟨ds, v, e⟩ := F.binds1 (ps := ps) ps.length 1 (by simp) (by simp) b
  obtain ⟨ds1, v1, e1⟩ := F.binds1 (ps := ps) n 0 (by simp) (by simpa using hn) b1
  cases v
  exact g ⟨f, _, F, ⟨a, i, k⟩, e, ds1, v1, e1⟩
theorem with_ex (X : K.In h) (G : h.Ns mainGlobals mg) (x : Str) {C : Addr} (a : PySem.W.nsIn K mainGlobals x = some (some (.ref C))) (e : PySem.W.excIn K C [.type "ValueError", .type "Exception", .type "BaseException", .type "object"] "ValueError.__new__" = true)
    (k : PySem.W.keepIn K (.ref C) = true) (b : PySem.W.subIn K (.ref C) (.type "BaseException") = some true) (t : PySem.W.typeIn K (.ref C) = some (.type "type")) (g : ExF K mg x C → Goal) : Goal :=
  g ⟨PySem.W.mg_of X G a, e, k, b, t⟩
theorem with_ei {D FE : Addr} {x y : Str} (_ : ExF K mg x D) (_ : ExF K mg y FE) (h1 : PySem.W.findIn K (.ref D) "__getattribute__" = some (some (.builtin "BaseException.__getattribute__"))) (h2 : PySem.W.findIn K (.ref D) "__getattr__" = some none) (h3 : PySem.W.subIn K (.ref D) (.type "BaseException") = some true) (h4 : PySem.W.hasDictIn K D = true)
    (h5 : PySem.W.findIn K (.ref D) "__class__" = some (some (.builtin "object.__class__"))) (h6 : PySem.W.specialIn K (.builtin "object.__class__") "__get__" = some (some (.builtin "getset_descriptor.__get__"))) (h7 : PySem.W.takesIn K (.builtin "object.__class__") = some true) (h8 : PySem.W.mroIn K D (.type "object") = some true)
    (h9 : PySem.W.subIn K (.ref D) (.ref FE) = some true) (h10 : PySem.W.kitOne K (.ref D) (.type "ValueError") = some true) (g : ExI K D FE → Goal) : Goal := g ⟨⟨h1, h2, h3, h4, h5, h6, h7, h8⟩, h9, h10⟩
theorem with_cl (X : K.In h) (G : h.Ns mainGlobals mg) (x : Str) {C : Addr} (a : PySem.W.nsIn K mainGlobals x = some (some (.ref C))) (h1 : PySem.W.plainGet K C Str.empty = true) (h2 : PySem.W.hasDictIn K C = true) (h3 : PySem.W.plainOver K C = true)
    (h4 : PySem.W.findIn K (.ref C) "__setattr__" = some (some (.builtin "object.__setattr__"))) (h5 : PySem.W.makesIn K C = true) (h6 : PySem.W.keepIn K (.ref C) = true) (g : Cls K C → mg x = some (.ref C) → PySem.W.makesIn K C = true → PySem.W.keepIn K (.ref C) = true → Goal) : Goal :=
  g ⟨h1, h2, h3, h4⟩ (PySem.W.mg_of X G a) h5 h6
theorem with_na {C : Addr} (_ : Cls K C) (f : Str) (a : PySem.W.findIn K (.ref C) f = some none) (g : NoAttr K C f → Goal) : Goal := g a
theorem with_bl (X : K.In h) (G : h.Ns mainGlobals mg) (x : Str) (a : PySem.W.nsIn K mainGlobals x = some none) (g : mg x = none → Goal) : Goal := g (PySem.W.mg_none_of X G a)
theorem with_co (X : K.In h) (G : h.Ns mainGlobals mg) (x : Str) (v : Int) {t : Tok} (a : PySem.W.nsIn K mainGlobals x = some (some (.int v t))) (g : (∃ t, mg x = some (.int v t)) → Goal) : Goal := g ⟨t, PySem.W.mg_of X G a⟩
theorem with_eq {p : Prop} (a : p) (g : p → Goal) : Goal := g a
end
end Fk

set_option maxRecDepth 100000
namespace Fk
open PySem PySem.Spec PyProof.Rows L2
/-! ### the end, where several defs make lambdas -/
theorem with_fcE {K : PySem.W.Frag} {h : Heap} {mg : Str → Option Value} {Goal : Prop} (X : K.In h) (G : h.Ns mainGlobals mg) (x : Str) (st : Stmt) (ps : List Str) {f c P : Addr} {od an : Option Addr} {osl : Array (Option Value)} {oc kV doc pm ct : Value}
    (a : PySem.W.nsIn K mainGlobals x = some (some (.ref f))) (l : K.lookup f = some ⟨oc, od, .func (PySem.W.fnOf x x (defArgs st) (defBody st) (defScope st) .none kV doc pm an (.ref c) ct), osl⟩) (ci : PySem.W.codeIn K (.ref c) x = true) (k : PySem.W.keepIn K (.ref f) = true)
    (b : ∀ (kV doc pm : Value) (an : Option Addr) (cdv ct : Value) (us : List Value), us.length = ps.length → bindArgs (PySem.W.fnOf x x (defArgs st) (defBody st) (defScope st) .none kV doc pm an cdv ct) ⟨us, []⟩ = pure (ps.zip us))
    (hd : PySem.W.codeHdIn K c P = true) (hT : h.get? P = some { cls := .none, data := .fields #[] }) (nP : K.lookup P = none)
    (g : ∀ F : FcF K mg x st ps, F.P = P → h.get? F.P = some { cls := .none, data := .fields #[] } → K.lookup F.P = none → PySem.W.CodeHd h F.c F.P → (∀ (s : Shared) (us : List Value), us.length = ps.length → BindsTo s F.d ⟨us, []⟩ (ps.zip us)) → Goal) : Goal :=
  g ⟨f, c, P, _, ⟨oc, od, kV, doc, pm, an, ct, osl, rfl, l, ci⟩, k, PySem.W.mg_of X G a, (fun_mk l ci k).binds b⟩ rfl hT nP (PySem.W.codeHd_of_K X hd) fun s us hl => .of_eq (b _ _ _ _ _ _ us hl)
theorem with_fnB {K : PySem.W.Frag} {h : Heap} {mg : Str → Option Value} {Goal : Prop} (X : K.In h) (G : h.Ns mainGlobals mg) (x : Str) (st : Stmt) (ps : List Str) {f : Addr} {od an : Option Addr} {osl : Array (Option Value)} {oc kV doc pm cdv ct : Value}
    (a : PySem.W.nsIn K mainGlobals x = some (some (.ref f))) (l : K.lookup f = some ⟨oc, od, .func (PySem.W.fnOf x x (defArgs st) (defBody st) (defScope st) .none kV doc pm an cdv ct), osl⟩) (c : PySem.W.codeIn K cdv x = true) (k : PySem.W.keepIn K (.ref f) = true)
    (b : ∀ (kV doc pm : Value) (an : Option Addr) (cdv ct : Value) (us : List Value), us.length = ps.length → bindArgs (PySem.W.fnOf x x (defArgs st) (defBody st) (defScope st) .none kV doc pm an cdv ct) ⟨us, []⟩ = pure (ps.zip us))
    (g : ∀ F : FnF K mg x st ps, (∀ (s : Shared) (us : List Value), us.length = ps.length → BindsTo s F.d ⟨us, []⟩ (ps.zip us)) → Goal) : Goal :=
  g ⟨f, _, fun_mk l c k, PySem.W.mg_of X G a, (fun_mk l c k).binds b⟩ fun s us hl => .of_eq (b _ _ _ _ _ _ us hl)
theorem FcF.cl {P : Program} {w : World} {K : PySem.W.Frag} {mg : Str → Option Value} {base : Heap} {x : Str} {st : Stmt} {ps : List Str} {k : Nat} {sp : Sp} (F : FcF K mg x st ps) (h : FnOk P w K mg base (L2.CX P w) k F.a F.d ps sp) : Cl P w K mg base k x sp [] :=
  ⟨F.a, F.d, ps, [], h, F.g, F.kp, F.b, .nil⟩
/-! ### a dict's copy, tuples joined -/
def rDictD : List V → Hp → VK → Prop := fun xs H Q => ∃ (a : Addr) (kvs : List (Key × V)), xs = [.ref a] ∧ Rd H a (.dK kvs) ∧ ∀ p, H p = none → Q (.ref p) (upd H p (.dK kvs))
theorem cDictD {X : Cx} : CallR X (.type "dict") rDictD := call_dictD
theorem g_dictD {a : Addr} {kvs : List (Key × V)} {H : Hp} {Q : VK} (h : H a = some (.dK kvs)) (k : ∀ p H', H p = none → Mx [] H H' → H' p = some (.dK kvs) → Q (.ref p) H') : rDictD [.ref a] H Q := ⟨a, kvs, rfl, .inl h, fun p hp => k p _ hp (.new hp) upd_same⟩
theorem g_joinT {K : PySem.W.Frag} {x y : Addr} {xs ys : List V} {H : Hp} {Q : VK} (h1 : SqT K H x xs) (h2 : SqT K H y ys) (n1 : xs ≠ []) (n2 : ys ≠ []) (hl : xs.length + ys.length ≤ 100000) (k : ∀ p H', H p = none → Mx [] H H' → H' p = some (.tup (xs ++ ys)) → Q (.ref p) H') : rCatT K (.ref x) (.ref y) H Q :=
  ⟨x, y, xs, ys, rfl, rfl, h1, h2, n1, lineS hl, fun z => absurd z n2, fun _ p hp => k p _ hp (.new hp) upd_same⟩
/-! ### sets' lengths, dicts of lists -/
section
variable {X : Cx} (K : PySem.W.Frag)
theorem lenSetK {a : Expr} {ta : TE} {p p2 q pos : Pos} (hg : Gl X "len") (hm : X.mg "len" = none) (hg2 : Gl X "set") (hm2 : X.mg "set" = none) (ha : PE X a ta) (hc : X.calm = true := by rfl) (e : X.K = K := by rfl)
    (na : starEach [a] X.env = (false, eval a X.env) :: starEach [] X.env := by rfl) : PE X (.Call (.Name "len" p) [.Call (.Name "set" p2) [a] [] q] [] pos) (RZ.tLenSetI K ta) := e ▸ RZ.pe_lenSetI hg hm hg2 hm2 ha hc na
def rSortD : List V → Hp → VK → Prop := fun xs H Q => ∃ (a : Addr) (kvs : List (Key × V)) (ks : List Int), xs = [.ref a] ∧ Rd H a (.dK kvs) ∧ kvs.map (·.1) = ks.map Sum.inl ∧ ks.length < 64 ∧ ∀ (ys : List Int) (p : Addr), ys.Perm ks → ys.Pairwise (· ≤ ·) → H p = none → Q (.ref p) (upd H p (.lst (ys.map V.int)))
theorem cSortD {X : Cx} (hc : X.calm = true) : CallR X (.builtin "sorted") rSortD := call_sortedDI hc
def rDictP (K : PySem.W.Frag) : List V → Hp → VK → Prop := fun xs H Q => ∃ (a : Addr) (ps : List Addr) (kvs : List (Key × V)), xs = [.ref a] ∧ SqL K H a (ps.map V.ref) ∧ Paired (fun p kv => SqT K H p [kV kv.1, kv.2]) ps kvs ∧ ∀ p, H p = none → Q (.ref p) (upd H p (.dK (mergeK [] kvs)))
theorem cDictP (hc : X.calm = true) (e : X.K = K := by rfl) : CallR X (.type "dict") (rDictP K) := e ▸ call_dictP hc
end
section
variable {K : PySem.W.Frag} {σ : L2.St} {H : Hp} {Q : VK} {QB : Bool → Hp → Prop}
def kLenSet (K : PySem.W.Frag) (Q : VK) : VK := fun x H1 => ∃ (l : Addr) (ns : List Int), x = .ref l ∧ SqL K H1 l (ns.map V.int) ∧ ns.Nodup ∧ ns.length ≤ 4000 ∧ Q (.int (ns.length : Nat)) H1
theorem g_lenSet {ta : TE} (k : ta σ H (kLenSet K Q)) : RZ.tLenSetI K ta σ H Q := k
def kDNi (y : V) (Q : VK) : VK := fun x H2 => ∃ a o, x = .ref a ∧ DGet H2 a y o ∧ Q (.bl (!o.isSome)) H2
theorem g_dni {ty td : TE} (k : ty σ H fun y H1 => td σ H1 (kDNi y Q)) : tDNotIn ty td σ H Q := k
theorem g_kDNi {a : Addr} {i : Int} {kvs : List (Key × V)} (h : H a = some (.dK kvs)) (k : Q (.bl (!(valV kvs (Sum.inl i)).isSome)) H) : kDNi (.int i) Q (.ref a) H := ⟨a, _, rfl, .k (k := Sum.inl i) h, k⟩
theorem g_kDPutI {v : V} {a : Addr} {i : Int} {kvs kvs' : List (Key × V)} {N : Hp → Prop} (h : H a = some (.dK kvs)) (e : putK kvs (Sum.inl i) v = kvs') (hl : kvs.length ≤ 100) (k : ∀ H', Mx [a] H H' → H' a = some (.dK kvs') → N H') : (∃ a' H4, V.ref a = .ref a' ∧ DPut H a' (.int i) v H4 ∧ N H4) :=
  ⟨a, _, rfl, DPut.k (k := Sum.inl i) h (lineL (by omega)), k _ (.put (by simp)) (by rw [upd_same, e])⟩
/-- a dict by its keys in order -/
def kvO (ms : List Int) (a : Int → Addr) : List (Key × V) := ms.map fun m => (Sum.inl m, V.ref (a m))
theorem kvO_get {a : Int → Addr} {m : Int} : ∀ {ms : List Int}, m ∈ ms → valV (kvO ms a) (Sum.inl m) = some (.ref (a m))
  | x :: ms, h => by
    unfold kvO
    rw [List.map_cons]
    by_cases e : x = m
    · subst e; exact valV_pos rfl
    · rw [valV_neg (by simp; exact e)]
      refine kvO_get (ms := ms) ?_
      rcases List.mem_cons.mp h with z | z
      · exact absurd z.symm e
      · exact z
theorem kvO_no {a : Int → Addr} {m : Int} : ∀ {ms : List Int}, m ∉ ms → valV (kvO ms a) (Sum.inl m) = none
  | [], _ => rfl
  | x :: ms, h => by
    unfold kvO
    rw [List.map_cons, valV_neg (by simp; exact fun z => h (by simp [z]))]
    exact kvO_no (ms := ms) fun z => h (List.mem_cons_of_mem _ z)
theorem kvO_in {a : Int → Addr} {m : Int} {ms : List Int} : (valV (kvO ms a) (Sum.inl m)).isSome = decide (m ∈ ms) := by
  by_cases h : m ∈ ms
  · rw [kvO_get h]; simp [h]
  · rw [kvO_no h]; simp [h]
theorem kvO_put {a : Int → Addr} {m : Int} {p : Addr} {ms : List Int} (h : m ∈ ms) : putK (kvO ms a) (Sum.inl m) (.ref p) = kvO ms (fun j => if j = m then p else a j) := by
  unfold putK
  rw [if_pos (by rw [valV_any, kvO_get h]; rfl)]
  unfold kvO
  rw [List.map_map]
  apply List.map_congr_left
  intro x _
  by_cases e : x = m
  · simp [e]
  · simp [e]
theorem kvO_len {a : Int → Addr} {ms : List Int} : (kvO ms a).length = ms.length := by unfold kvO; rw [List.length_map]
theorem kvO_new {a : Int → Addr} : ∀ {ms : List Int} {acc : List Int}, (acc ++ ms).Nodup → (kvO ms a).foldl (fun acc kv => putK acc kv.1 kv.2) (kvO acc a) = kvO (acc ++ ms) a
  | [], acc, _ => by rw [List.append_nil]; rfl
  | m :: ms, acc, nd => by
    have hm : m ∉ acc := fun h => by
      rw [List.nodup_append] at nd
      exact nd.2.2 m h m (by simp) rfl
    have e : putK (kvO acc a) (Sum.inl m) (.ref (a m)) = kvO (acc ++ [m]) a := by
      unfold putK
      rw [if_neg (by rw [valV_any, kvO_no hm]; simp)]
      unfold kvO
      rw [List.map_append]
      rfl
    show (kvO ms a).foldl _ (putK (kvO acc a) (Sum.inl m) (.ref (a m))) = _
    rw [e, kvO_new (ms := ms) (acc := acc ++ [m]) (by rw [List.append_assoc]; exact nd), List.append_assoc]
    rfl
theorem kvO_merge {a : Int → Addr} {ms : List Int} (nd : ms.Nodup) : mergeK [] (kvO ms a) = kvO ms a := kvO_new (acc := []) (by simpa using nd)
end
end Fk

set_option maxRecDepth 100000
namespace Fk
open PySem PySem.Spec PyProof.Rows L2
/-! ### the text by places -/
def top (i : Nat) : Stmt := PySem.Challenge.pw_frankmeter_k09_houses.main.body.getD i (.Pass ⟨0, 0, 0, 0⟩)
abbrev s_sign_of : Stmt := top 16
abbrev N_sign_of : List Str := ["key", "meter", "count", "amount", "kind"]
theorem sc_sign_of : FnScope N_sign_of ["key", "meter", "count", "amount", "kind"] (defScope s_sign_of) := ⟨rfl, rfl, rfl, by decide +kernel, rfl, by decide +kernel, by decide +kernel⟩
abbrev s_code_of : Stmt := top 17
abbrev N_code_of : List Str := ["key", "meter", "count", "amount", "kind"]
theorem sc_code_of : FnScope N_code_of ["key", "meter", "count", "amount", "kind"] (defScope s_code_of) := ⟨rfl, rfl, rfl, by decide +kernel, rfl, by decide +kernel, by decide +kernel⟩
abbrev s_is_amount : Stmt := top 18
abbrev N_is_amount : List Str := ["amount"]
theorem sc_is_amount : FnScope N_is_amount ["amount"] (defScope s_is_amount) := ⟨rfl, rfl, rfl, by decide +kernel, rfl, by decide +kernel, by decide +kernel⟩
abbrev s_need_amount : Stmt := top 19
abbrev N_need_amount : List Str := ["amount"]
theorem sc_need_amount : FnScope N_need_amount ["amount"] (defScope s_need_amount) := ⟨rfl, rfl, rfl, by decide +kernel, rfl, by decide +kernel, by decide +kernel⟩
abbrev s_is_good : Stmt := top 20
abbrev N_is_good : List Str := ["key", "code", "meter", "count", "kind"]
theorem sc_is_good : FnScope N_is_good ["key", "code", "meter", "count", "kind"] (defScope s_is_good) := ⟨rfl, rfl, rfl, by decide +kernel, rfl, by decide +kernel, by decide +kernel⟩
abbrev s_need_key : Stmt := top 24
abbrev N_need_key : List Str := ["key"]
theorem sc_need_key : FnScope N_need_key ["key"] (defScope s_need_key) := ⟨rfl, rfl, rfl, by decide +kernel, rfl, by decide +kernel, by decide +kernel⟩
abbrev s_need_number : Stmt := top 25
abbrev N_need_number : List Str := ["number"]
theorem sc_need_number : FnScope N_need_number ["number"] (defScope s_need_number) := ⟨rfl, rfl, rfl, by decide +kernel, rfl, by decide +kernel, by decide +kernel⟩
abbrev s_House___init__ : Stmt := inClass (top 28) 0
abbrev N_House___init__ : List Str := ["self", "key", "meters", "meter"]
theorem sc_House___init__ : FnScope N_House___init__ ["self", "key", "meters"] (defScope s_House___init__) := ⟨rfl, rfl, rfl, by decide +kernel, rfl, by decide +kernel, by decide +kernel⟩
abbrev s_House_funds : Stmt := inClass (top 28) 1
abbrev N_House_funds : List Str := ["self"]
theorem sc_House_funds : FnScope N_House_funds ["self"] (defScope s_House_funds) := ⟨rfl, rfl, rfl, by decide +kernel, rfl, by decide +kernel, by decide +kernel⟩
abbrev s_House_bought : Stmt := inClass (top 28) 2
abbrev N_House_bought : List Str := ["self"]
theorem sc_House_bought : FnScope N_House_bought ["self"] (defScope s_House_bought) := ⟨rfl, rfl, rfl, by decide +kernel, rfl, by decide +kernel, by decide +kernel⟩
abbrev s_House_buy : Stmt := inClass (top 28) 3
abbrev N_House_buy : List Str := ["self", "amount"]
theorem sc_House_buy : FnScope N_House_buy ["self", "amount"] (defScope s_House_buy) := ⟨rfl, rfl, rfl, by decide +kernel, rfl, by decide +kernel, by decide +kernel⟩
abbrev s_House_need_meter : Stmt := inClass (top 28) 4
abbrev N_House_need_meter : List Str := ["self", "meter"]
theorem sc_House_need_meter : FnScope N_House_need_meter ["self", "meter"] (defScope s_House_need_meter) := ⟨rfl, rfl, rfl, by decide +kernel, rfl, by decide +kernel, by decide +kernel⟩
abbrev s_House_issue : Stmt := inClass (top 28) 5
abbrev N_House_issue : List Str := ["self", "meter", "amount", "code"]
theorem sc_House_issue : FnScope N_House_issue ["self", "meter", "amount"] (defScope s_House_issue) := ⟨rfl, rfl, rfl, by decide +kernel, rfl, by decide +kernel, by decide +kernel⟩
abbrev s_House_last_code : Stmt := inClass (top 28) 6
abbrev N_House_last_code : List Str := ["self", "meter"]
theorem sc_House_last_code : FnScope N_House_last_code ["self", "meter"] (defScope s_House_last_code) := ⟨rfl, rfl, rfl, by decide +kernel, rfl, by decide +kernel, by decide +kernel⟩
abbrev s_House_take_back : Stmt := inClass (top 28) 7
abbrev N_House_take_back : List Str := ["self", "code", "meter"]
theorem sc_House_take_back : FnScope N_House_take_back ["self", "code"] (defScope s_House_take_back) := ⟨rfl, rfl, rfl, by decide +kernel, rfl, by decide +kernel, by decide +kernel⟩
abbrev s__law_start : Stmt := top 30
abbrev N__law_start : List Str := ["_law_script", "_law_mixed", "_law_cell"]
theorem sc__law_start : FnScope N__law_start ["_law_script"] (defScope s__law_start) := ⟨rfl, rfl, rfl, by decide +kernel, rfl, by decide +kernel, by decide +kernel⟩
abbrev s__law_drawn : Stmt := top 31
abbrev N__law_drawn : List Str := ["_law_state", "_law_many", "_law_found", "_law_cell"]
theorem sc__law_drawn : FnScope N__law_drawn ["_law_state", "_law_many"] (defScope s__law_drawn) := ⟨rfl, rfl, rfl, by decide +kernel, rfl, by decide +kernel, by decide +kernel⟩
abbrev s__law_same : Stmt := top 32
abbrev N__law_same : List Str := ["_law_found", "_law_due_here", "_law_k"]
theorem sc__law_same : FnScope N__law_same ["_law_found", "_law_due_here"] (defScope s__law_same) := ⟨rfl, rfl, rfl, by decide +kernel, rfl, by decide +kernel, by decide +kernel⟩
abbrev s__law_kind : Stmt := top 33
abbrev N__law_kind : List Str := ["_law_work", "e", "_law_kinds", "_law_words"]
theorem sc__law_kind : FnScope N__law_kind ["_law_work"] (defScope s__law_kind) := ⟨rfl, rfl, rfl, by decide +kernel, rfl, by decide +kernel, by decide +kernel⟩
abbrev s__law_far : Stmt := top 34
abbrev N__law_far : List Str := ["_law_state", "_law_most", "_law_far_here"]
theorem sc__law_far : FnScope N__law_far ["_law_state", "_law_most"] (defScope s__law_far) := ⟨rfl, rfl, rfl, by decide +kernel, rfl, by decide +kernel, by decide +kernel⟩
abbrev s__law_amount : Stmt := top 35
abbrev N__law_amount : List Str := ["_law_state"]
theorem sc__law_amount : FnScope N__law_amount ["_law_state"] (defScope s__law_amount) := ⟨rfl, rfl, rfl, by decide +kernel, rfl, by decide +kernel, by decide +kernel⟩
abbrev s__law_sign : Stmt := top 36
abbrev N__law_sign : List Str := ["_law_key", "_law_meter", "_law_count", "_law_amount_here", "_law_kind_here", "_law_whole"]
theorem sc__law_sign : FnScope N__law_sign ["_law_key", "_law_meter", "_law_count", "_law_amount_here", "_law_kind_here"] (defScope s__law_sign) := ⟨rfl, rfl, rfl, by decide +kernel, rfl, by decide +kernel, by decide +kernel⟩
abbrev s__law_code : Stmt := top 37
abbrev N__law_code : List Str := ["_law_key", "_law_meter", "_law_count", "_law_amount_here", "_law_kind_here"]
theorem sc__law_code : FnScope N__law_code ["_law_key", "_law_meter", "_law_count", "_law_amount_here", "_law_kind_here"] (defScope s__law_code) := ⟨rfl, rfl, rfl, by decide +kernel, rfl, by decide +kernel, by decide +kernel⟩
abbrev s__law_house : Stmt := top 38
abbrev N__law_house : List Str := ["_law_key", "_law_meters", "_law_found", "_law_meter"]
theorem sc__law_house : FnScope N__law_house ["_law_key", "_law_meters"] (defScope s__law_house) := ⟨rfl, rfl, rfl, by decide +kernel, rfl, by decide +kernel, by decide +kernel⟩
abbrev s__law_buy : Stmt := top 39
abbrev N__law_buy : List Str := ["_law_h", "_law_amount_here"]
theorem sc__law_buy : FnScope N__law_buy ["_law_h", "_law_amount_here"] (defScope s__law_buy) := ⟨rfl, rfl, rfl, by decide +kernel, rfl, by decide +kernel, by decide +kernel⟩
abbrev s__law_issue : Stmt := top 40
abbrev N__law_issue : List Str := ["_law_h", "_law_meter", "_law_amount_here", "_law_code_here"]
theorem sc__law_issue : FnScope N__law_issue ["_law_h", "_law_meter", "_law_amount_here"] (defScope s__law_issue) := ⟨rfl, rfl, rfl, by decide +kernel, rfl, by decide +kernel, by decide +kernel⟩
abbrev s__law_take_back : Stmt := top 41
abbrev N__law_take_back : List Str := ["_law_h", "_law_code_here", "_law_meter", "_law_count", "_law_amount_here", "_law_sign_here"]
theorem sc__law_take_back : FnScope N__law_take_back ["_law_h", "_law_code_here"] (defScope s__law_take_back) := ⟨rfl, rfl, rfl, by decide +kernel, rfl, by decide +kernel, by decide +kernel⟩
abbrev s__law_numbers : Stmt := top 42
abbrev N__law_numbers : List Str := ["_law_state", "_law_many", "_law_first", "_law_step", "_law_k"]
theorem sc__law_numbers : FnScope N__law_numbers ["_law_state", "_law_many"] (defScope s__law_numbers) := ⟨rfl, rfl, rfl, by decide +kernel, rfl, by decide +kernel, by decide +kernel⟩
abbrev s__law_back : Stmt := top 43
abbrev N__law_back : List Str := ["_law_state", "_law_h", "_law_meters", "_law_meter", "_law_count", "_law_amount_here", "_law_code_here", "_law_far_here", "_law_some"]
theorem sc__law_back : FnScope N__law_back ["_law_state", "_law_h"] (defScope s__law_back) := ⟨rfl, rfl, rfl, by decide +kernel, rfl, by decide +kernel, by decide +kernel⟩
abbrev s__law_deed : Stmt := top 44
abbrev N__law_deed : List Str := ["_law_state", "_law_h", "_law_meters", "_law_meter", "_law_amount_here", "_law_way"]
theorem sc__law_deed : FnScope N__law_deed ["_law_state", "_law_h"] (defScope s__law_deed) := ⟨rfl, rfl, rfl, by decide +kernel, rfl, by decide +kernel, by decide +kernel⟩
abbrev s__law_due : Stmt := top 45
abbrev N__law_due : List Str := ["_law_h", "_law_deed_here"]
theorem sc__law_due : FnScope N__law_due ["_law_h", "_law_deed_here"] (defScope s__law_due) := ⟨rfl, rfl, rfl, by decide +kernel, rfl, by decide +kernel, by decide +kernel⟩
abbrev s__law_does : Stmt := top 46
abbrev N__law_does : List Str := ["_law_house_here", "_law_deed_here"]
theorem sc__law_does : FnScope N__law_does ["_law_house_here", "_law_deed_here"] (defScope s__law_does) := ⟨rfl, rfl, rfl, by decide +kernel, rfl, by decide +kernel, by decide +kernel⟩
abbrev s_law : Stmt := top 47
abbrev N_law : List Str := ["_law_script", "_law_state", "_law_meters", "_law_key", "_law_handed", "_law_house_here", "_law_h", "_law_turn", "_law_deed_here", "_law_due_here", "_law_meter"]
theorem sc_law : FnScope N_law ["_law_script"] (defScope s_law) := ⟨rfl, rfl, rfl, by decide +kernel, rfl, by decide +kernel, by decide +kernel⟩
/-! ### what the text's top leaves -/
structure Tx (K : PySem.W.Frag) (mg : Str → Option Value) where
  g_WHEEL : ∃ t, mg "WHEEL" = some (.int 999983 t)
  g_TOP : ∃ t, mg "TOP" = some (.int 1 t)
  g_BACK : ∃ t, mg "BACK" = some (.int 2 t)
  g_MOST_AMOUNT : ∃ t, mg "MOST_AMOUNT" = some (.int 99999 t)
  g_MOST_NUMBER : ∃ t, mg "MOST_NUMBER" = some (.int 9999 t)
  g_MOST_KEY : ∃ t, mg "MOST_KEY" = some (.int 999981 t)
  g_MOST_METERS : ∃ t, mg "MOST_METERS" = some (.int 4 t)
  n_ValueError : mg "ValueError" = none
  n_bool : mg "bool" = none
  n_dict : mg "dict" = none
  n_int : mg "int" = none
  n_isinstance : mg "isinstance" = none
  n_len : mg "len" = none
  n_list : mg "list" = none
  n_max : mg "max" = none
  n_min : mg "min" = none
  n_range : mg "range" = none
  n_set : mg "set" = none
  n_sorted : mg "sorted" = none
  n_str : mg "str" = none
  n_tuple : mg "tuple" = none
  E_FrankError : Addr
  x_FrankError : ExF K mg "FrankError" E_FrankError
  E_NoBank : Addr
  x_NoBank : ExF K mg "NoBank" E_NoBank
  E_BadNumber : Addr
  x_BadNumber : ExF K mg "BadNumber" E_BadNumber
  E_BadAmount : Addr
  x_BadAmount : ExF K mg "BadAmount" E_BadAmount
  E_BadCode : Addr
  x_BadCode : ExF K mg "BadCode" E_BadCode
  E_Short : Addr
  x_Short : ExF K mg "Short" E_Short
  E_Down : Addr
  x_Down : ExF K mg "Down" E_Down
  E_Up : Addr
  x_Up : ExF K mg "Up" E_Up
  E_NoMeter : Addr
  x_NoMeter : ExF K mg "NoMeter" E_NoMeter
  hd_FrankError : PySem.W.hasDictIn K E_FrankError = true
  i_NoBank : ExI K E_NoBank E_FrankError
  i_BadNumber : ExI K E_BadNumber E_FrankError
  i_BadAmount : ExI K E_BadAmount E_FrankError
  i_BadCode : ExI K E_BadCode E_FrankError
  i_Short : ExI K E_Short E_FrankError
  i_Down : ExI K E_Down E_FrankError
  i_Up : ExI K E_Up E_FrankError
  i_NoMeter : ExI K E_NoMeter E_FrankError
  kt_NoBank_NoBank : PySem.W.kitOne K (.ref E_NoBank) (.ref E_NoBank) = some true
  kt_NoBank_BadNumber : PySem.W.kitOne K (.ref E_NoBank) (.ref E_BadNumber) = some false
  kt_NoBank_BadAmount : PySem.W.kitOne K (.ref E_NoBank) (.ref E_BadAmount) = some false
  kt_NoBank_BadCode : PySem.W.kitOne K (.ref E_NoBank) (.ref E_BadCode) = some false
  kt_NoBank_Short : PySem.W.kitOne K (.ref E_NoBank) (.ref E_Short) = some false
  kt_NoBank_Down : PySem.W.kitOne K (.ref E_NoBank) (.ref E_Down) = some false
  kt_NoBank_Up : PySem.W.kitOne K (.ref E_NoBank) (.ref E_Up) = some false
  kt_NoBank_NoMeter : PySem.W.kitOne K (.ref E_NoBank) (.ref E_NoMeter) = some false
  kt_BadNumber_NoBank : PySem.W.kitOne K (.ref E_BadNumber) (.ref E_NoBank) = some false
  kt_BadNumber_BadNumber : PySem.W.kitOne K (.ref E_BadNumber) (.ref E_BadNumber) = some true
  kt_BadNumber_BadAmount : PySem.W.kitOne K (.ref E_BadNumber) (.ref E_BadAmount) = some false
  kt_BadNumber_BadCode : PySem.W.kitOne K (.ref E_BadNumber) (.ref E_BadCode) = some false
  kt_BadNumber_Short : PySem.W.kitOne K (.ref E_BadNumber) (.ref E_Short) = some false
  kt_BadNumber_Down : PySem.W.kitOne K (.ref E_BadNumber) (.ref E_Down) = some false
  kt_BadNumber_Up : PySem.W.kitOne K (.ref E_BadNumber) (.ref E_Up) = some false
  kt_BadNumber_NoMeter : PySem.W.kitOne K (.ref E_BadNumber) (.ref E_NoMeter) = some false
  kt_BadAmount_NoBank : PySem.W.kitOne K (.ref E_BadAmount) (.ref E_NoBank) = some false
  kt_BadAmount_BadNumber : PySem.W.kitOne K (.ref E_BadAmount) (.ref E_BadNumber) = some false
  kt_BadAmount_BadAmount : PySem.W.kitOne K (.ref E_BadAmount) (.ref E_BadAmount) = some true
  kt_BadAmount_BadCode : PySem.W.kitOne K (.ref E_BadAmount) (.ref E_BadCode) = some false
  kt_BadAmount_Short : PySem.W.kitOne K (.ref E_BadAmount) (.ref E_Short) = some false
  kt_BadAmount_Down : PySem.W.kitOne K (.ref E_BadAmount) (.ref E_Down) = some false
  kt_BadAmount_Up : PySem.W.kitOne K (.ref E_BadAmount) (.ref E_Up) = some false
  kt_BadAmount_NoMeter : PySem.W.kitOne K (.ref E_BadAmount) (.ref E_NoMeter) = some false
  kt_BadCode_NoBank : PySem.W.kitOne K (.ref E_BadCode) (.ref E_NoBank) = some false
  kt_BadCode_BadNumber : PySem.W.kitOne K (.ref E_BadCode) (.ref E_BadNumber) = some false
  kt_BadCode_BadAmount : PySem.W.kitOne K (.ref E_BadCode) (.ref E_BadAmount) = some false
  kt_BadCode_BadCode : PySem.W.kitOne K (.ref E_BadCode) (.ref E_BadCode) = some true
  kt_BadCode_Short : PySem.W.kitOne K (.ref E_BadCode) (.ref E_Short) = some false
  kt_BadCode_Down : PySem.W.kitOne K (.ref E_BadCode) (.ref E_Down) = some false
  kt_BadCode_Up : PySem.W.kitOne K (.ref E_BadCode) (.ref E_Up) = some false
  kt_BadCode_NoMeter : PySem.W.kitOne K (.ref E_BadCode) (.ref E_NoMeter) = some false
  kt_Short_NoBank : PySem.W.kitOne K (.ref E_Short) (.ref E_NoBank) = some false
  kt_Short_BadNumber : PySem.W.kitOne K (.ref E_Short) (.ref E_BadNumber) = some false
  kt_Short_BadAmount : PySem.W.kitOne K (.ref E_Short) (.ref E_BadAmount) = some false
  kt_Short_BadCode : PySem.W.kitOne K (.ref E_Short) (.ref E_BadCode) = some false
  kt_Short_Short : PySem.W.kitOne K (.ref E_Short) (.ref E_Short) = some true
  kt_Short_Down : PySem.W.kitOne K (.ref E_Short) (.ref E_Down) = some false
  kt_Short_Up : PySem.W.kitOne K (.ref E_Short) (.ref E_Up) = some false
  kt_Short_NoMeter : PySem.W.kitOne K (.ref E_Short) (.ref E_NoMeter) = some false
  kt_Down_NoBank : PySem.W.kitOne K (.ref E_Down) (.ref E_NoBank) = some false
  kt_Down_BadNumber : PySem.W.kitOne K (.ref E_Down) (.ref E_BadNumber) = some false
  kt_Down_BadAmount : PySem.W.kitOne K (.ref E_Down) (.ref E_BadAmount) = some false
  kt_Down_BadCode : PySem.W.kitOne K (.ref E_Down) (.ref E_BadCode) = some false
  kt_Down_Short : PySem.W.kitOne K (.ref E_Down) (.ref E_Short) = some false
  kt_Down_Down : PySem.W.kitOne K (.ref E_Down) (.ref E_Down) = some true
  kt_Down_Up : PySem.W.kitOne K (.ref E_Down) (.ref E_Up) = some false
  kt_Down_NoMeter : PySem.W.kitOne K (.ref E_Down) (.ref E_NoMeter) = some false
  kt_Up_NoBank : PySem.W.kitOne K (.ref E_Up) (.ref E_NoBank) = some false
  kt_Up_BadNumber : PySem.W.kitOne K (.ref E_Up) (.ref E_BadNumber) = some false
  kt_Up_BadAmount : PySem.W.kitOne K (.ref E_Up) (.ref E_BadAmount) = some false
  kt_Up_BadCode : PySem.W.kitOne K (.ref E_Up) (.ref E_BadCode) = some false
  kt_Up_Short : PySem.W.kitOne K (.ref E_Up) (.ref E_Short) = some false
  kt_Up_Down : PySem.W.kitOne K (.ref E_Up) (.ref E_Down) = some false
  kt_Up_Up : PySem.W.kitOne K (.ref E_Up) (.ref E_Up) = some true
  kt_Up_NoMeter : PySem.W.kitOne K (.ref E_Up) (.ref E_NoMeter) = some false
  kt_NoMeter_NoBank : PySem.W.kitOne K (.ref E_NoMeter) (.ref E_NoBank) = some false
  kt_NoMeter_BadNumber : PySem.W.kitOne K (.ref E_NoMeter) (.ref E_BadNumber) = some false
  kt_NoMeter_BadAmount : PySem.W.kitOne K (.ref E_NoMeter) (.ref E_BadAmount) = some false
  kt_NoMeter_BadCode : PySem.W.kitOne K (.ref E_NoMeter) (.ref E_BadCode) = some false
  kt_NoMeter_Short : PySem.W.kitOne K (.ref E_NoMeter) (.ref E_Short) = some false
  kt_NoMeter_Down : PySem.W.kitOne K (.ref E_NoMeter) (.ref E_Down) = some false
  kt_NoMeter_Up : PySem.W.kitOne K (.ref E_NoMeter) (.ref E_Up) = some false
  kt_NoMeter_NoMeter : PySem.W.kitOne K (.ref E_NoMeter) (.ref E_NoMeter) = some true
  C_House : Addr
  cls_House : Cls K C_House
  g_House : mg "House" = some (.ref C_House)
  mk_House_ : PySem.W.makesIn K C_House = true
  kc_House : PySem.W.keepIn K (.ref C_House) = true
  na_House_key : NoAttr K C_House "key"
  na_House_money : NoAttr K C_House "money"
  na_House_spent : NoAttr K C_House "spent"
  na_House_issues : NoAttr K C_House "issues"
  na_House_taken : NoAttr K C_House "taken"
  f_sign_of : FnF K mg "sign_of" s_sign_of ["key", "meter", "count", "amount", "kind"]
  f_code_of : FnF K mg "code_of" s_code_of ["key", "meter", "count", "amount", "kind"]
  f_is_amount : FnF K mg "is_amount" s_is_amount ["amount"]
  f_need_amount : FnF K mg "need_amount" s_need_amount ["amount"]
  f_is_good : FnF K mg "is_good" s_is_good ["key", "code", "meter", "count", "kind"]
  f_need_key : FnF K mg "need_key" s_need_key ["key"]
  f_need_number : FnF K mg "need_number" s_need_number ["number"]
  m_House___init__ : MeF K C_House "__init__" "House.__init__" s_House___init__ ["self", "key", "meters"]
  m_House_funds : MeF K C_House "funds" "House.funds" s_House_funds ["self"]
  m_House_bought : MeF K C_House "bought" "House.bought" s_House_bought ["self"]
  m_House_buy : MeF K C_House "buy" "House.buy" s_House_buy ["self", "amount"]
  m_House_need_meter : MeF K C_House "need_meter" "House.need_meter" s_House_need_meter ["self", "meter"]
  m_House_issue : MeF K C_House "issue" "House.issue" s_House_issue ["self", "meter", "amount"]
  m_House_last_code : MeF K C_House "last_code" "House.last_code" s_House_last_code ["self", "meter"]
  m_House_take_back : MeF K C_House "take_back" "House.take_back" s_House_take_back ["self", "code"]
  f__law_start : FnF K mg "_law_start" s__law_start ["_law_script"]
  f__law_drawn : FnF K mg "_law_drawn" s__law_drawn ["_law_state", "_law_many"]
  f__law_same : FnF K mg "_law_same" s__law_same ["_law_found", "_law_due_here"]
  f__law_kind : FnF K mg "_law_kind" s__law_kind ["_law_work"]
  f__law_far : FnF K mg "_law_far" s__law_far ["_law_state", "_law_most"]
  f__law_amount : FnF K mg "_law_amount" s__law_amount ["_law_state"]
  f__law_sign : FnF K mg "_law_sign" s__law_sign ["_law_key", "_law_meter", "_law_count", "_law_amount_here", "_law_kind_here"]
  f__law_code : FnF K mg "_law_code" s__law_code ["_law_key", "_law_meter", "_law_count", "_law_amount_here", "_law_kind_here"]
  f__law_house : FnF K mg "_law_house" s__law_house ["_law_key", "_law_meters"]
  f__law_buy : FnF K mg "_law_buy" s__law_buy ["_law_h", "_law_amount_here"]
  f__law_issue : FnF K mg "_law_issue" s__law_issue ["_law_h", "_law_meter", "_law_amount_here"]
  f__law_take_back : FnF K mg "_law_take_back" s__law_take_back ["_law_h", "_law_code_here"]
  f__law_numbers : FnF K mg "_law_numbers" s__law_numbers ["_law_state", "_law_many"]
  f__law_back : FnF K mg "_law_back" s__law_back ["_law_state", "_law_h"]
  f__law_deed : FnF K mg "_law_deed" s__law_deed ["_law_state", "_law_h"]
  f__law_due : FnF K mg "_law_due" s__law_due ["_law_h", "_law_deed_here"]
  f__law_does : FnF K mg "_law_does" s__law_does ["_law_house_here", "_law_deed_here"]
  f_law : FcF K mg "law" s_law ["_law_script"]
end Fk

set_option maxHeartbeats 4000000
namespace Fk
open PySem PySem.Spec PyProof.Rows L2
local macro_rules | `(tactic| wtm_at "ln") => `(tactic| first
  | omega
  | (simp only [List.length_cons, List.length_nil, List.length_map, List.length_append, List.length_replicate, List.length_take, List.length_drop, List.length_set]; omega)
  | (with_unfolding_all exact (by decide)))
local macro_rules | `(tactic| wtm_at "ar") => `(tactic| first
  | ((with_reducible show CMulW _ _); (refine' mulS ?_ ?_ <;> omega))
  | ((with_reducible show CDivW _ _); (refine' divS ?_ ?_ <;> omega))
  | ((with_reducible show CPow _ _); exact ⟨by decide, by decide, by decide⟩)
  | (show (0 : Int) < _; omega)
  | (with_unfolding_all exact (by decide)))
local macro_rules | `(tactic| wtm_at "at") => `(tactic| first
  | assumption
  | (refine' cl_atE ?e80 ?h80; (case' e80 => first | exact rfl | assumption); (case' h80 => wtm_at "ln"))
  | exact rfl)
local macro_rules | `(tactic| wtm_at "fr") => `(tactic| first
  | assumption
  | ((with_reducible refine' Mx.free0 ?m99 ?h99); (case' h99 => assumption); (case' m99 => wtm_at "mo")))
local macro_rules | `(tactic| wtm_at "hp") => `(tactic| first
  | assumption
  | ((with_reducible refine' Mx.get0 ?m1 ?h1); (case' m1 => assumption); (case' h1 => wtm_at "hp"))
  | ((with_reducible refine' Mx.get ?m2 ?n2 ?h2); (case' m2 => assumption); (case' n2 => wtm_at "nin"); (case' h2 => wtm_at "hp")))
local macro_rules | `(tactic| wtm_at "sl") => `(tactic| first
  | assumption
  | ((with_reducible refine' Mx.sqL0 ?m96 ?h96); (case' h96 => assumption); (case' m96 => wtm_at "mo"))
  | (refine' SqL.of ?h3; (case' h3 => wtm_at "hp"))
  | ((with_reducible refine' Mx.sqL0 ?m4 ?h4); (case' m4 => assumption); (case' h4 => wtm_at "sl"))
  | ((with_reducible refine' Mx.sqL ?m5 ?n5 ?h5); (case' m5 => assumption); (case' n5 => wtm_at "nin"); (case' h5 => wtm_at "sl")))
local macro_rules | `(tactic| wtm_at "st") => `(tactic| first
  | assumption
  | ((with_reducible refine' Mx.sqT0 ?m97 ?h97); (case' h97 => assumption); (case' m97 => wtm_at "mo"))
  | (refine' SqT.of ?h6; (case' h6 => wtm_at "hp"))
  | ((with_reducible refine' Mx.sqT0 ?m7 ?h7); (case' m7 => assumption); (case' h7 => wtm_at "st"))
  | ((with_reducible refine' Mx.sqT ?m8 ?n8 ?h8); (case' m8 => assumption); (case' n8 => wtm_at "nin"); (case' h8 => wtm_at "st")))
local macro_rules | `(tactic| wtm_at "mx") => `(tactic| first
  | assumption
  | exact Mx.refl
  | ((with_reducible refine' Mx.of0 ?h9); (case' h9 => assumption))
  | ((with_reducible refine' Mx.trans ?h10 ?m10); (case' m10 => first | assumption | ((with_reducible refine' Mx.of0 ?q10); (case' q10 => assumption))); (case' h10 => wtm_at "mx")))
local macro_rules | `(tactic| wtm_at "mo") => `(tactic| first
  | wtm_at "mx"
  | ((with_reducible refine' Mx.own ?m90 ?f90 ?k90); (case' k90 => assumption); (case' f90 => wtm_at "fr"); (case' m90 => wtm_at "mo"))
  | ((with_reducible refine' Mx.trans ?h91 ?m91); (case' m91 => first | assumption | ((with_reducible refine' Mx.of0 ?q91); (case' q91 => assumption))); (case' h91 => wtm_at "mo")))
local macro_rules | `(tactic| wtm_at "ne") => `(tactic| first
  | assumption
  | exact Ne.symm (by assumption)
  | ((with_reducible refine' ne_of_none ?x94 ?y94); (case' y94 => assumption); (case' x94 => wtm_at "hp"))
  | ((with_reducible refine' Ne.symm (ne_of_none ?x95 ?y95)); (case' y95 => assumption); (case' x95 => wtm_at "hp")))
local macro_rules | `(tactic| wtm_at "nin") => `(tactic| first
  | assumption
  | exact List.not_mem_nil
  | ((with_reducible refine' List.not_mem_cons_of_ne_of_not_mem ?h98 ?t98); (case' h98 => wtm_at "ne"); (case' t98 => wtm_at "nin")))
local macro_rules | `(tactic| wtm_at "g1") => `(tactic| first
  | ((with_reducible refine' g_var ?h11 ?k11); (case' h11 => exact rfl))
  | with_reducible refine' g_c ?_
  | with_reducible refine' g_op ?_
  | with_reducible refine' g_I0 ?_
  | ((with_reducible refine' g_I ?c12 ?k12); (case' c12 => wtm_at "ar"))
  | with_reducible refine' g_cons ?_
  | with_reducible refine' g_nil ?_
  | with_reducible refine' g_seq ?_
  | with_reducible refine' g_asg ?_
  | with_reducible refine' g_name ?_
  | with_reducible refine' g_ret ?_
  | with_reducible refine' g_if ?_
  | with_reducible refine' g_test ?_
  | with_reducible refine' g_tB ?_
  | with_reducible refine' g_bl ?_
  | ((with_reducible refine' g_eq ?h13 ?k13); (case' h13 => exact rfl))
  | ((with_reducible refine' g_ne ?h14 ?k14); (case' h14 => exact rfl))
  | with_reducible refine' g_CB ?_
  | with_reducible refine' g_call ?_
  | with_reducible refine' g_drop ?_
  | with_reducible refine' g_next ?_
  | with_reducible refine' g_not ?_
  | with_reducible refine' g_and ?_
  | with_reducible refine' g_or ?_
  | with_reducible refine' g_un ?_
  | with_reducible refine' g_U ?_
  | with_reducible refine' g_tup ?_
  | with_reducible refine' g_lst ?_
  | ((with_reducible refine' g_kNew ?h15 ?k15); (case' h15 => wtm_at "ln"); (case' k15 => intro _ _ _ _ _))
  | ((with_reducible refine' g_ixL ?h16 ?a16 ?k16); (case' h16 => wtm_at "sl"); (case' a16 => wtm_at "at"))
  | ((with_reducible refine' g_ixT ?h17 ?a17 ?k17); (case' h17 => wtm_at "st"); (case' a17 => wtm_at "at"))
  | with_reducible refine' g_slice ?_
  | with_reducible refine' g_part ?_
  | with_reducible refine' g_kPart ?_
  | with_reducible refine' g_noPart ?_
  | ((with_reducible refine' g_slL ?h18 ?k18); (case' h18 => wtm_at "sl"); (case' k18 => intro _ _ _ _ _))
  | ((with_reducible refine' g_cat ?h119 ?h219 ?l19 ?k19); (case' h119 => wtm_at "hp"); (case' h219 => wtm_at "hp"); (case' l19 => wtm_at "ln"); (case' k19 => intro _ _ _ _ _))
  | ((with_reducible refine' g_rep ?h120 ?h220 ?h320 ?l20 ?k20); (case' h120 => wtm_at "hp"); (case' h220 => wtm_at "ln"); (case' h320 => wtm_at "ln"); (case' l20 => wtm_at "ln"); (case' k20 => intro _ _ _ _ _))
  | ((with_reducible refine' g_append ?h21 ?l21 ?k21); (case' h21 => wtm_at "hp"); (case' l21 => wtm_at "ln"); (case' k21 => intro _ _ _))
  | ((with_reducible refine' g_kBM ?h22 ?k22); (case' h22 => wtm_at "sl"))
  | ((with_reducible refine' g_kBM0 ?h23 ?k23); (case' h23 => wtm_at "sl"))
  | ((with_reducible refine' g_kL ?h24 ?k24); (case' h24 => wtm_at "sl"))
  | ((with_reducible refine' g_kR1 ?h125 ?h225 ?k25); (case' h125 => wtm_at "ln"); (case' h225 => wtm_at "ln"))
  | ((with_reducible refine' g_kR2 ?h126 ?h226 ?h326 ?h426 ?k26); (case' h126 => wtm_at "ln"); (case' h226 => wtm_at "ln"); (case' h326 => wtm_at "ln"); (case' h426 => wtm_at "ln"))
  | ((with_reducible refine' g_lenL ?h27 ?k27); (case' h27 => wtm_at "sl"))
  | ((with_reducible refine' g_lenT ?h28 ?k28); (case' h28 => wtm_at "st"))
  | ((with_reducible refine' g_listL ?h29 ?k29); (case' h29 => wtm_at "sl"); (case' k29 => intro _ _ _ _ _))
  | ((with_reducible refine' g_tupleL ?h30 ?k30); (case' h30 => wtm_at "sl"); (case' k30 => intro _ _ _ _ _))
  | with_reducible refine' g_max ?_
  | with_reducible refine' g_min ?_
  | with_reducible refine' g_intB ?_
  | with_reducible refine' g_fld ?_
  | with_reducible refine' g_put ?_
  | with_reducible refine' g_dget ?_
  | with_reducible refine' g_isN ?_
  | with_reducible refine' g_notN ?_
  | with_reducible refine' g_ifE ?_
  | with_reducible refine' g_andV ?_
  | with_reducible refine' g_orV ?_
  | with_reducible refine' g_notV ?_
  | with_reducible refine' g_kIf ?_
  | with_reducible refine' g_chain ?_
  | with_reducible refine' g_kCh ?_
  | with_reducible refine' g_sub ?_
  | ((with_reducible refine' g_setI ?h92 ?e92 ?j92 ?k92); (case' h92 => wtm_at "hp"); (case' e92 => first | exact rfl | assumption); (case' j92 => wtm_at "ln"); (case' k92 => intro _ _ _))
  | ((with_reducible refine' g_setL ?h89 ?i89 ?k89); (case' h89 => wtm_at "hp"); (case' i89 => exact ixE rfl (by wtm_at "ln")); (case' k89 => intro _ _ _))
  | ((with_reducible refine' g_gtup ?h93 ?e93 ?k93); (case' h93 => wtm_at "st"); (case' e93 => exact rfl))
  | with_reducible refine' g_gcons ?_
  | with_reducible refine' g_gnil ?_
  | with_reducible refine' g_par ?_
  | with_reducible refine' g_kPar ?_
  | with_reducible refine' g_meth ?_
  | with_reducible refine' g_bm ?_
  | with_reducible refine' g_bm0 ?_
  | with_reducible refine' g_raise ?_
  | with_reducible refine' g_for ?_
  | with_reducible refine' g_iR1 ?_
  | with_reducible refine' g_iR2 ?_
  | with_reducible refine' g_iL ?_
  | with_reducible refine' g_lc ?_
  | with_reducible refine' g_retN ?_
  | with_reducible refine' g_no (b := false) rfl ?_
  | with_reducible refine' g_yes (b := true) rfl ?_)
local macro_rules | `(tactic| wtm_at "go") => `(tactic| repeat (wtm_at "g1"))
local macro_rules | `(tactic| wtm_at "gs") => `(tactic| repeat ((fail_if_success (with_reducible refine' g_ifE ?_)); wtm_at "g1"))
local macro_rules | `(tactic| wtm_at "gi") => `(tactic| repeat ((fail_if_success (with_reducible refine' g_if ?_)); wtm_at "g1"))
local macro_rules | `(tactic| wtm_at "gr") => `(tactic| repeat ((fail_if_success (with_reducible refine' g_ret ?_)); wtm_at "g1"))
local macro_rules | `(tactic| wtm_at "gq") => `(tactic| repeat ((fail_if_success (with_reducible refine' g_asg ?_)); wtm_at "g1"))
/-! ### banks -/
/-- which bank stands, where one does -/
def stand (cs : List Int) : Nat := if cl cs 0 = 1 ∧ ¬ (cl cs 10 = 1 ∧ cl cs 1 < cl cs 11) then 0 else 1
def Any (cs : List Int) : Prop := cs.length = 20 ∧ (cl cs 0 = 1 ∨ cl cs 10 = 1)
def bank (cs : List Int) : List Int := (cs.drop (stand cs * 10)).take 10
section
variable {P : Program} {w : World} {K : PySem.W.Frag} {mg : Str → Option Value} {base : Heap}
def spAtFirst : Sp := fun vs H Q _ => vs = [] ∧ ∀ p H', H p = none → Mx [] H H' → H' p = some (.lst (((1 : Int) :: List.replicate 19 0).map V.int)) → Q (.ref p) H'
/-- standing -/
def spStanding (T : Tx K mg) : Sp := fun vs H Q E => ∃ (a : Addr) (cs : List Int), vs = [.ref a] ∧ SqL K H a (cs.map V.int) ∧ cs.length ≤ 100000 ∧
  (Any cs → ∀ H', Mx [] H H' → Q (.int (stand cs)) H') ∧ (¬ Any cs → ∀ H', Mx [] H H' → E (.ref T.E_NoBank) none H')
end
end Fk
namespace Fk
open PySem PySem.Spec PyProof.Rows L2
local macro_rules | `(tactic| wtm_at "ln") => `(tactic| first
  | omega
  | (simp only [List.length_cons, List.length_nil, List.length_map, List.length_append, List.length_replicate, List.length_take, List.length_drop, List.length_set]; omega)
  | (with_unfolding_all exact (by decide)))
local macro_rules | `(tactic| wtm_at "ar") => `(tactic| first
  | ((with_reducible show CMulW _ _); (refine' mulS ?_ ?_ <;> omega))
  | ((with_reducible show CDivW _ _); (refine' divS ?_ ?_ <;> omega))
  | ((with_reducible show CPow _ _); exact ⟨by decide, by decide, by decide⟩)
  | (show (0 : Int) < _; omega)
  | (with_unfolding_all exact (by decide)))
local macro_rules | `(tactic| wtm_at "at") => `(tactic| first
  | assumption
  | (refine' cl_atE ?e80 ?h80; (case' e80 => first | exact rfl | assumption); (case' h80 => wtm_at "ln"))
  | exact rfl)
local macro_rules | `(tactic| wtm_at "fr") => `(tactic| first
  | assumption
  | ((with_reducible refine' Mx.free0 ?m99 ?h99); (case' h99 => assumption); (case' m99 => wtm_at "mo")))
local macro_rules | `(tactic| wtm_at "hp") => `(tactic| first
  | assumption
  | ((with_reducible refine' Mx.get0 ?m1 ?h1); (case' m1 => assumption); (case' h1 => wtm_at "hp"))
  | ((with_reducible refine' Mx.get ?m2 ?n2 ?h2); (case' m2 => assumption); (case' n2 => wtm_at "nin"); (case' h2 => wtm_at "hp")))
local macro_rules | `(tactic| wtm_at "sl") => `(tactic| first
  | assumption
  | ((with_reducible refine' Mx.sqL0 ?m96 ?h96); (case' h96 => assumption); (case' m96 => wtm_at "mo"))
  | (refine' SqL.of ?h3; (case' h3 => wtm_at "hp"))
  | ((with_reducible refine' Mx.sqL0 ?m4 ?h4); (case' m4 => assumption); (case' h4 => wtm_at "sl"))
  | ((with_reducible refine' Mx.sqL ?m5 ?n5 ?h5); (case' m5 => assumption); (case' n5 => wtm_at "nin"); (case' h5 => wtm_at "sl")))
local macro_rules | `(tactic| wtm_at "st") => `(tactic| first
  | assumption
  | ((with_reducible refine' Mx.sqT0 ?m97 ?h97); (case' h97 => assumption); (case' m97 => wtm_at "mo"))
  | (refine' SqT.of ?h6; (case' h6 => wtm_at "hp"))
  | ((with_reducible refine' Mx.sqT0 ?m7 ?h7); (case' m7 => assumption); (case' h7 => wtm_at "st"))
  | ((with_reducible refine' Mx.sqT ?m8 ?n8 ?h8); (case' m8 => assumption); (case' n8 => wtm_at "nin"); (case' h8 => wtm_at "st")))
local macro_rules | `(tactic| wtm_at "mx") => `(tactic| first
  | assumption
  | exact Mx.refl
  | ((with_reducible refine' Mx.of0 ?h9); (case' h9 => assumption))
  | ((with_reducible refine' Mx.trans ?h10 ?m10); (case' m10 => first | assumption | ((with_reducible refine' Mx.of0 ?q10); (case' q10 => assumption))); (case' h10 => wtm_at "mx")))
local macro_rules | `(tactic| wtm_at "mo") => `(tactic| first
  | wtm_at "mx"
  | ((with_reducible refine' Mx.own ?m90 ?f90 ?k90); (case' k90 => assumption); (case' f90 => wtm_at "fr"); (case' m90 => wtm_at "mo"))
  | ((with_reducible refine' Mx.trans ?h91 ?m91); (case' m91 => first | assumption | ((with_reducible refine' Mx.of0 ?q91); (case' q91 => assumption))); (case' h91 => wtm_at "mo")))
local macro_rules | `(tactic| wtm_at "ne") => `(tactic| first
  | assumption
  | exact Ne.symm (by assumption)
  | ((with_reducible refine' ne_of_none ?x94 ?y94); (case' y94 => assumption); (case' x94 => wtm_at "hp"))
  | ((with_reducible refine' Ne.symm (ne_of_none ?x95 ?y95)); (case' y95 => assumption); (case' x95 => wtm_at "hp")))
local macro_rules | `(tactic| wtm_at "nin") => `(tactic| first
  | assumption
  | exact List.not_mem_nil
  | ((with_reducible refine' List.not_mem_cons_of_ne_of_not_mem ?h98 ?t98); (case' h98 => wtm_at "ne"); (case' t98 => wtm_at "nin")))
local macro_rules | `(tactic| wtm_at "g1") => `(tactic| first
  | ((with_reducible refine' g_var ?h11 ?k11); (case' h11 => exact rfl))
  | with_reducible refine' g_c ?_
  | with_reducible refine' g_op ?_
  | with_reducible refine' g_I0 ?_
  | ((with_reducible refine' g_I ?c12 ?k12); (case' c12 => wtm_at "ar"))
  | with_reducible refine' g_cons ?_
  | with_reducible refine' g_nil ?_
  | with_reducible refine' g_seq ?_
  | with_reducible refine' g_asg ?_
  | with_reducible refine' g_name ?_
  | with_reducible refine' g_ret ?_
  | with_reducible refine' g_if ?_
  | with_reducible refine' g_test ?_
  | with_reducible refine' g_tB ?_
  | with_reducible refine' g_bl ?_
  | ((with_reducible refine' g_eq ?h13 ?k13); (case' h13 => exact rfl))
  | ((with_reducible refine' g_ne ?h14 ?k14); (case' h14 => exact rfl))
  | with_reducible refine' g_CB ?_
  | with_reducible refine' g_call ?_
  | with_reducible refine' g_drop ?_
  | with_reducible refine' g_next ?_
  | with_reducible refine' g_not ?_
  | with_reducible refine' g_and ?_
  | with_reducible refine' g_or ?_
  | with_reducible refine' g_un ?_
  | with_reducible refine' g_U ?_
  | with_reducible refine' g_tup ?_
  | with_reducible refine' g_lst ?_
  | ((with_reducible refine' g_kNew ?h15 ?k15); (case' h15 => wtm_at "ln"); (case' k15 => intro _ _ _ _ _))
  | ((with_reducible refine' g_ixL ?h16 ?a16 ?k16); (case' h16 => wtm_at "sl"); (case' a16 => wtm_at "at"))
  | ((with_reducible refine' g_ixT ?h17 ?a17 ?k17); (case' h17 => wtm_at "st"); (case' a17 => wtm_at "at"))
  | with_reducible refine' g_slice ?_
  | with_reducible refine' g_part ?_
  | with_reducible refine' g_kPart ?_
  | with_reducible refine' g_noPart ?_
  | ((with_reducible refine' g_slL ?h18 ?k18); (case' h18 => wtm_at "sl"); (case' k18 => intro _ _ _ _ _))
  | ((with_reducible refine' g_cat ?h119 ?h219 ?l19 ?k19); (case' h119 => wtm_at "hp"); (case' h219 => wtm_at "hp"); (case' l19 => wtm_at "ln"); (case' k19 => intro _ _ _ _ _))
  | ((with_reducible refine' g_rep ?h120 ?h220 ?h320 ?l20 ?k20); (case' h120 => wtm_at "hp"); (case' h220 => wtm_at "ln"); (case' h320 => wtm_at "ln"); (case' l20 => wtm_at "ln"); (case' k20 => intro _ _ _ _ _))
  | ((with_reducible refine' g_append ?h21 ?l21 ?k21); (case' h21 => wtm_at "hp"); (case' l21 => wtm_at "ln"); (case' k21 => intro _ _ _))
  | ((with_reducible refine' g_kBM ?h22 ?k22); (case' h22 => wtm_at "sl"))
  | ((with_reducible refine' g_kBM0 ?h23 ?k23); (case' h23 => wtm_at "sl"))
  | ((with_reducible refine' g_kL ?h24 ?k24); (case' h24 => wtm_at "sl"))
  | ((with_reducible refine' g_kR1 ?h125 ?h225 ?k25); (case' h125 => wtm_at "ln"); (case' h225 => wtm_at "ln"))
  | ((with_reducible refine' g_kR2 ?h126 ?h226 ?h326 ?h426 ?k26); (case' h126 => wtm_at "ln"); (case' h226 => wtm_at "ln"); (case' h326 => wtm_at "ln"); (case' h426 => wtm_at "ln"))
  | ((with_reducible refine' g_lenL ?h27 ?k27); (case' h27 => wtm_at "sl"))
  | ((with_reducible refine' g_lenT ?h28 ?k28); (case' h28 => wtm_at "st"))
  | ((with_reducible refine' g_listL ?h29 ?k29); (case' h29 => wtm_at "sl"); (case' k29 => intro _ _ _ _ _))
  | ((with_reducible refine' g_tupleL ?h30 ?k30); (case' h30 => wtm_at "sl"); (case' k30 => intro _ _ _ _ _))
  | with_reducible refine' g_max ?_
  | with_reducible refine' g_min ?_
  | with_reducible refine' g_intB ?_
  | with_reducible refine' g_fld ?_
  | with_reducible refine' g_put ?_
  | with_reducible refine' g_dget ?_
  | with_reducible refine' g_isN ?_
  | with_reducible refine' g_notN ?_
  | with_reducible refine' g_ifE ?_
  | with_reducible refine' g_andV ?_
  | with_reducible refine' g_orV ?_
  | with_reducible refine' g_notV ?_
  | with_reducible refine' g_kIf ?_
  | with_reducible refine' g_chain ?_
  | with_reducible refine' g_kCh ?_
  | with_reducible refine' g_sub ?_
  | ((with_reducible refine' g_setI ?h92 ?e92 ?j92 ?k92); (case' h92 => wtm_at "hp"); (case' e92 => first | exact rfl | assumption); (case' j92 => wtm_at "ln"); (case' k92 => intro _ _ _))
  | ((with_reducible refine' g_setL ?h89 ?i89 ?k89); (case' h89 => wtm_at "hp"); (case' i89 => exact ixE rfl (by wtm_at "ln")); (case' k89 => intro _ _ _))
  | ((with_reducible refine' g_gtup ?h93 ?e93 ?k93); (case' h93 => wtm_at "st"); (case' e93 => exact rfl))
  | with_reducible refine' g_gcons ?_
  | with_reducible refine' g_gnil ?_
  | with_reducible refine' g_par ?_
  | with_reducible refine' g_kPar ?_
  | with_reducible refine' g_meth ?_
  | with_reducible refine' g_bm ?_
  | with_reducible refine' g_bm0 ?_
  | with_reducible refine' g_raise ?_
  | with_reducible refine' g_for ?_
  | with_reducible refine' g_iR1 ?_
  | with_reducible refine' g_iR2 ?_
  | with_reducible refine' g_iL ?_
  | with_reducible refine' g_lc ?_
  | with_reducible refine' g_retN ?_
  | with_reducible refine' g_no (b := false) rfl ?_
  | with_reducible refine' g_yes (b := true) rfl ?_)
local macro_rules | `(tactic| wtm_at "go") => `(tactic| repeat (wtm_at "g1"))
local macro_rules | `(tactic| wtm_at "gs") => `(tactic| repeat ((fail_if_success (with_reducible refine' g_ifE ?_)); wtm_at "g1"))
local macro_rules | `(tactic| wtm_at "gi") => `(tactic| repeat ((fail_if_success (with_reducible refine' g_if ?_)); wtm_at "g1"))
local macro_rules | `(tactic| wtm_at "gr") => `(tactic| repeat ((fail_if_success (with_reducible refine' g_ret ?_)); wtm_at "g1"))
local macro_rules | `(tactic| wtm_at "gq") => `(tactic| repeat ((fail_if_success (with_reducible refine' g_asg ?_)); wtm_at "g1"))
theorem stand_le (cs : List Int) : stand cs ≤ 1 := by unfold stand; split <;> omega
theorem bank_len {cs : List Int} (h : cs.length = 20) : (bank cs).length = 10 := by
  have := stand_le cs
  unfold bank
  rw [List.length_take, List.length_drop]
  omega
theorem cut_bank {cs : List Int} (h : cs.length = 20) : cutV (cs.map V.int) (some ((stand cs : Int) * 10)) (some (((stand cs : Int) + 1) * 10)) = (bank cs).map V.int := by
  have hs := stand_le cs
  have e1 : ((stand cs : Int) * 10) = ((stand cs * 10 : Nat) : Int) := by omega
  have e2 : (((stand cs : Int) + 1) * 10) = (((stand cs + 1) * 10 : Nat) : Int) := by omega
  rw [e1, e2]
  unfold cutV bank
  rw [HT.sIx_nat, HT.sIx_nat, List.length_map, h, List.map_take, List.map_drop]
  congr 1
  · omega
  · congr 1
    omega
/-- the bank to be written, with some numbers changed -/
def news (cs : List Int) (chs : List (Nat × Int)) : List Int := chs.foldl (fun b c => b.set c.1 c.2) ((bank cs).set 1 (cl (bank cs) 1 + 1))
def other (cs : List Int) : Nat := (1 - stand cs) * 10
/-- the steps of writing the other bank -/
def stepsOf (cs : List Int) (chs : List (Nat × Int)) : List (Int × Int) :=
  ((other cs : Int), 0) :: ((List.range 9).map fun (k : Nat) => ((other cs : Int) + (1 + (k : Int)), cl (news cs chs) (k + 1))) ++ [((other cs : Int), 1)]
def chD (c : Nat × Int) : Int × Int := ((c.1 : Int), c.2)
def newsTo (cs : List Int) (chs : List (Nat × Int)) (i : Nat) : List Int := (chs.take i).foldl (fun b c => b.set c.1 c.2) ((bank cs).set 1 (cl (bank cs) 1 + 1))
theorem newsTo_succ {cs : List Int} {chs : List (Nat × Int)} {i : Nat} {c : Nat × Int} (h : chs[i]? = some c) : newsTo cs chs (i + 1) = (newsTo cs chs i).set c.1 c.2 := by
  unfold newsTo
  rw [List.take_add_one, h, List.foldl_append]
  rfl
theorem newsTo_len {cs : List Int} {chs : List (Nat × Int)} {i : Nat} (h : cs.length = 20) : (newsTo cs chs i).length = 10 := by
  have : ∀ (chs : List (Nat × Int)) (b : List Int), (chs.foldl (fun b c => b.set c.1 c.2) b).length = b.length := by
    intro chs
    induction chs with
    | nil => intro b; rfl
    | cons c r ih => intro b; rw [List.foldl_cons, ih, List.length_set]
  unfold newsTo
  rw [this, List.length_set, bank_len h]
theorem stepsOf_at {cs : List Int} {chs : List (Nat × Int)} {i : Nat} (h : i < 9) : (stepsOf cs chs).take (i + 1) ++ [((other cs : Int) + (1 + (i : Int)), cl (news cs chs) (1 + i))] = (stepsOf cs chs).take (i + 2) := by
  have : (stepsOf cs chs)[i + 1]? = some ((other cs : Int) + (1 + (i : Int)), cl (news cs chs) (i + 1)) := by
    unfold stepsOf
    rw [List.cons_append, List.getElem?_cons_succ, List.getElem?_append_left (by simp; omega)]
    simp [h]
  rw [Nat.add_comm 1 i, List.take_add_one (i := i + 1), this]
  rfl
theorem stepsOf_end {cs : List Int} {chs : List (Nat × Int)} : (stepsOf cs chs).take 10 ++ [((other cs : Int), 1)] = stepsOf cs chs := by
  rfl
theorem news_len {cs : List Int} {chs : List (Nat × Int)} (h : cs.length = 20) : (news cs chs).length = 10 := by
  have : ∀ (chs : List (Nat × Int)) (b : List Int), (chs.foldl (fun b c => b.set c.1 c.2) b).length = b.length := by
    intro chs
    induction chs with
    | nil => intro b; rfl
    | cons c r ih => intro b; rw [List.foldl_cons, ih, List.length_set]
  unfold news
  rw [this, List.length_set, bank_len h]
section
variable {P : Program} {w : World} {K : PySem.W.Frag} {mg : Str → Option Value} {base : Heap}
/-- bank_of -/
def spBankOf (T : Tx K mg) : Sp := fun vs H Q E => ∃ (a : Addr) (cs : List Int), vs = [.ref a] ∧ SqL K H a (cs.map V.int) ∧ cs.length ≤ 100000 ∧
  (Any cs → ∀ p H', H p = none → Mx [] H H' → H' p = some (.lst ((bank cs).map V.int)) → Q (.ref p) H') ∧ (¬ Any cs → ∀ H', Mx [] H H' → E (.ref T.E_NoBank) none H')
/-- steps_to -/
def spStepsTo (T : Tx K mg) : Sp := fun vs H Q _ => ∃ (a b : Addr) (cs : List Int) (us : List V) (chs : List (Nat × Int)), vs = [.ref a, .ref b] ∧ SqL K H a (cs.map V.int) ∧ Any cs ∧ SqL K H b us ∧ DpAll K H us ((chs.map chD).map stD) ∧ (∀ c ∈ chs, c.1 < 10) ∧
  (∀ p H' ws, H p = none → Mx [] H H' → H' p = some (.lst ws) → DpAll K H' ws ((stepsOf cs chs).map stD) → Q (.ref p) H')
end
end Fk
namespace Fk
open PySem PySem.Spec PyProof.Rows L2
local macro_rules | `(tactic| wtm_at "ln") => `(tactic| first
  | omega
  | (simp only [List.length_cons, List.length_nil, List.length_map, List.length_append, List.length_replicate, List.length_take, List.length_drop, List.length_set]; omega)
  | (with_unfolding_all exact (by decide)))
local macro_rules | `(tactic| wtm_at "ar") => `(tactic| first
  | ((with_reducible show CMulW _ _); (refine' mulS ?_ ?_ <;> omega))
  | ((with_reducible show CDivW _ _); (refine' divS ?_ ?_ <;> omega))
  | ((with_reducible show CPow _ _); exact ⟨by decide, by decide, by decide⟩)
  | (show (0 : Int) < _; omega)
  | (with_unfolding_all exact (by decide)))
local macro_rules | `(tactic| wtm_at "at") => `(tactic| first
  | assumption
  | (refine' cl_atE ?e80 ?h80; (case' e80 => first | exact rfl | assumption); (case' h80 => wtm_at "ln"))
  | exact rfl)
local macro_rules | `(tactic| wtm_at "fr") => `(tactic| first
  | assumption
  | ((with_reducible refine' Mx.free0 ?m99 ?h99); (case' h99 => assumption); (case' m99 => wtm_at "mo")))
local macro_rules | `(tactic| wtm_at "hp") => `(tactic| first
  | assumption
  | ((with_reducible refine' Mx.get0 ?m1 ?h1); (case' m1 => assumption); (case' h1 => wtm_at "hp"))
  | ((with_reducible refine' Mx.get ?m2 ?n2 ?h2); (case' m2 => assumption); (case' n2 => wtm_at "nin"); (case' h2 => wtm_at "hp")))
local macro_rules | `(tactic| wtm_at "sl") => `(tactic| first
  | assumption
  | ((with_reducible refine' Mx.sqL0 ?m96 ?h96); (case' h96 => assumption); (case' m96 => wtm_at "mo"))
  | (refine' SqL.of ?h3; (case' h3 => wtm_at "hp"))
  | ((with_reducible refine' Mx.sqL0 ?m4 ?h4); (case' m4 => assumption); (case' h4 => wtm_at "sl"))
  | ((with_reducible refine' Mx.sqL ?m5 ?n5 ?h5); (case' m5 => assumption); (case' n5 => wtm_at "nin"); (case' h5 => wtm_at "sl")))
local macro_rules | `(tactic| wtm_at "st") => `(tactic| first
  | assumption
  | ((with_reducible refine' Mx.sqT0 ?m97 ?h97); (case' h97 => assumption); (case' m97 => wtm_at "mo"))
  | (refine' SqT.of ?h6; (case' h6 => wtm_at "hp"))
  | ((with_reducible refine' Mx.sqT0 ?m7 ?h7); (case' m7 => assumption); (case' h7 => wtm_at "st"))
  | ((with_reducible refine' Mx.sqT ?m8 ?n8 ?h8); (case' m8 => assumption); (case' n8 => wtm_at "nin"); (case' h8 => wtm_at "st")))
local macro_rules | `(tactic| wtm_at "mx") => `(tactic| first
  | assumption
  | exact Mx.refl
  | ((with_reducible refine' Mx.of0 ?h9); (case' h9 => assumption))
  | ((with_reducible refine' Mx.trans ?h10 ?m10); (case' m10 => first | assumption | ((with_reducible refine' Mx.of0 ?q10); (case' q10 => assumption))); (case' h10 => wtm_at "mx")))
local macro_rules | `(tactic| wtm_at "mo") => `(tactic| first
  | wtm_at "mx"
  | ((with_reducible refine' Mx.own ?m90 ?f90 ?k90); (case' k90 => assumption); (case' f90 => wtm_at "fr"); (case' m90 => wtm_at "mo"))
  | ((with_reducible refine' Mx.trans ?h91 ?m91); (case' m91 => first | assumption | ((with_reducible refine' Mx.of0 ?q91); (case' q91 => assumption))); (case' h91 => wtm_at "mo")))
local macro_rules | `(tactic| wtm_at "ne") => `(tactic| first
  | assumption
  | exact Ne.symm (by assumption)
  | ((with_reducible refine' ne_of_none ?x94 ?y94); (case' y94 => assumption); (case' x94 => wtm_at "hp"))
  | ((with_reducible refine' Ne.symm (ne_of_none ?x95 ?y95)); (case' y95 => assumption); (case' x95 => wtm_at "hp")))
local macro_rules | `(tactic| wtm_at "nin") => `(tactic| first
  | assumption
  | exact List.not_mem_nil
  | ((with_reducible refine' List.not_mem_cons_of_ne_of_not_mem ?h98 ?t98); (case' h98 => wtm_at "ne"); (case' t98 => wtm_at "nin")))
local macro_rules | `(tactic| wtm_at "g1") => `(tactic| first
  | ((with_reducible refine' g_var ?h11 ?k11); (case' h11 => exact rfl))
  | with_reducible refine' g_c ?_
  | with_reducible refine' g_op ?_
  | with_reducible refine' g_I0 ?_
  | ((with_reducible refine' g_I ?c12 ?k12); (case' c12 => wtm_at "ar"))
  | with_reducible refine' g_cons ?_
  | with_reducible refine' g_nil ?_
  | with_reducible refine' g_seq ?_
  | with_reducible refine' g_asg ?_
  | with_reducible refine' g_name ?_
  | with_reducible refine' g_ret ?_
  | with_reducible refine' g_if ?_
  | with_reducible refine' g_test ?_
  | with_reducible refine' g_tB ?_
  | with_reducible refine' g_bl ?_
  | ((with_reducible refine' g_eq ?h13 ?k13); (case' h13 => exact rfl))
  | ((with_reducible refine' g_ne ?h14 ?k14); (case' h14 => exact rfl))
  | with_reducible refine' g_CB ?_
  | with_reducible refine' g_call ?_
  | with_reducible refine' g_drop ?_
  | with_reducible refine' g_next ?_
  | with_reducible refine' g_not ?_
  | with_reducible refine' g_and ?_
  | with_reducible refine' g_or ?_
  | with_reducible refine' g_un ?_
  | with_reducible refine' g_U ?_
  | with_reducible refine' g_tup ?_
  | with_reducible refine' g_lst ?_
  | ((with_reducible refine' g_kNew ?h15 ?k15); (case' h15 => wtm_at "ln"); (case' k15 => intro _ _ _ _ _))
  | ((with_reducible refine' g_ixL ?h16 ?a16 ?k16); (case' h16 => wtm_at "sl"); (case' a16 => wtm_at "at"))
  | ((with_reducible refine' g_ixT ?h17 ?a17 ?k17); (case' h17 => wtm_at "st"); (case' a17 => wtm_at "at"))
  | with_reducible refine' g_slice ?_
  | with_reducible refine' g_part ?_
  | with_reducible refine' g_kPart ?_
  | with_reducible refine' g_noPart ?_
  | ((with_reducible refine' g_slL ?h18 ?k18); (case' h18 => wtm_at "sl"); (case' k18 => intro _ _ _ _ _))
  | ((with_reducible refine' g_cat ?h119 ?h219 ?l19 ?k19); (case' h119 => wtm_at "hp"); (case' h219 => wtm_at "hp"); (case' l19 => wtm_at "ln"); (case' k19 => intro _ _ _ _ _))
  | ((with_reducible refine' g_rep ?h120 ?h220 ?h320 ?l20 ?k20); (case' h120 => wtm_at "hp"); (case' h220 => wtm_at "ln"); (case' h320 => wtm_at "ln"); (case' l20 => wtm_at "ln"); (case' k20 => intro _ _ _ _ _))
  | ((with_reducible refine' g_append ?h21 ?l21 ?k21); (case' h21 => wtm_at "hp"); (case' l21 => wtm_at "ln"); (case' k21 => intro _ _ _))
  | ((with_reducible refine' g_kBM ?h22 ?k22); (case' h22 => wtm_at "sl"))
  | ((with_reducible refine' g_kBM0 ?h23 ?k23); (case' h23 => wtm_at "sl"))
  | ((with_reducible refine' g_kL ?h24 ?k24); (case' h24 => wtm_at "sl"))
  | ((with_reducible refine' g_kR1 ?h125 ?h225 ?k25); (case' h125 => wtm_at "ln"); (case' h225 => wtm_at "ln"))
  | ((with_reducible refine' g_kR2 ?h126 ?h226 ?h326 ?h426 ?k26); (case' h126 => wtm_at "ln"); (case' h226 => wtm_at "ln"); (case' h326 => wtm_at "ln"); (case' h426 => wtm_at "ln"))
  | ((with_reducible refine' g_lenL ?h27 ?k27); (case' h27 => wtm_at "sl"))
  | ((with_reducible refine' g_lenT ?h28 ?k28); (case' h28 => wtm_at "st"))
  | ((with_reducible refine' g_listL ?h29 ?k29); (case' h29 => wtm_at "sl"); (case' k29 => intro _ _ _ _ _))
  | ((with_reducible refine' g_tupleL ?h30 ?k30); (case' h30 => wtm_at "sl"); (case' k30 => intro _ _ _ _ _))
  | with_reducible refine' g_max ?_
  | with_reducible refine' g_min ?_
  | with_reducible refine' g_intB ?_
  | with_reducible refine' g_fld ?_
  | with_reducible refine' g_put ?_
  | with_reducible refine' g_dget ?_
  | with_reducible refine' g_isN ?_
  | with_reducible refine' g_notN ?_
  | with_reducible refine' g_ifE ?_
  | with_reducible refine' g_andV ?_
  | with_reducible refine' g_orV ?_
  | with_reducible refine' g_notV ?_
  | with_reducible refine' g_kIf ?_
  | with_reducible refine' g_chain ?_
  | with_reducible refine' g_kCh ?_
  | with_reducible refine' g_sub ?_
  | ((with_reducible refine' g_setI ?h92 ?e92 ?j92 ?k92); (case' h92 => wtm_at "hp"); (case' e92 => first | exact rfl | assumption); (case' j92 => wtm_at "ln"); (case' k92 => intro _ _ _))
  | ((with_reducible refine' g_setL ?h89 ?i89 ?k89); (case' h89 => wtm_at "hp"); (case' i89 => exact ixE rfl (by wtm_at "ln")); (case' k89 => intro _ _ _))
  | ((with_reducible refine' g_gtup ?h93 ?e93 ?k93); (case' h93 => wtm_at "st"); (case' e93 => exact rfl))
  | with_reducible refine' g_gcons ?_
  | with_reducible refine' g_gnil ?_
  | with_reducible refine' g_par ?_
  | with_reducible refine' g_kPar ?_
  | with_reducible refine' g_meth ?_
  | with_reducible refine' g_bm ?_
  | with_reducible refine' g_bm0 ?_
  | with_reducible refine' g_raise ?_
  | with_reducible refine' g_for ?_
  | with_reducible refine' g_iR1 ?_
  | with_reducible refine' g_iR2 ?_
  | with_reducible refine' g_iL ?_
  | with_reducible refine' g_lc ?_
  | with_reducible refine' g_retN ?_
  | with_reducible refine' g_no (b := false) rfl ?_
  | with_reducible refine' g_yes (b := true) rfl ?_)
local macro_rules | `(tactic| wtm_at "go") => `(tactic| repeat (wtm_at "g1"))
local macro_rules | `(tactic| wtm_at "gs") => `(tactic| repeat ((fail_if_success (with_reducible refine' g_ifE ?_)); wtm_at "g1"))
local macro_rules | `(tactic| wtm_at "gi") => `(tactic| repeat ((fail_if_success (with_reducible refine' g_if ?_)); wtm_at "g1"))
local macro_rules | `(tactic| wtm_at "gr") => `(tactic| repeat ((fail_if_success (with_reducible refine' g_ret ?_)); wtm_at "g1"))
local macro_rules | `(tactic| wtm_at "gq") => `(tactic| repeat ((fail_if_success (with_reducible refine' g_asg ?_)); wtm_at "g1"))
/-! ### codes -/
abbrev Bd (x : Int) : Prop := x.natAbs < 2 ^ 300
def sgn (k m c a kd : Int) : Int := (k + 1) * (17 * m + 31 * c + 53 * a + kd) % 999983
def amt (a : Int) : Bool := decide (1 ≤ a) && decide (a ≤ 99999)
theorem amt_iff {a : Int} : amt a = true ↔ 1 ≤ a ∧ a ≤ 99999 := by simp [amt]
theorem amt_no {a : Int} : amt a = false ↔ ¬ (1 ≤ a ∧ a ≤ 99999) := by simp [amt]
/-- a code: meter, count, amount, sign -/
structure Cd where
  m : Int
  c : Int
  a : Int
  s : Int
  deriving DecidableEq
def Cd.vs (z : Cd) : List V := [.int z.m, .int z.c, .int z.a, .int z.s]
def cdD (z : Cd) : PyData := .tuple [.int z.m, .int z.c, .int z.a, .int z.s]
def mkCd (k m c a kd : Int) : Cd := ⟨m, c, a, sgn k m c a kd⟩
def good (k : Int) (z : Cd) (m c kd : Int) : Bool := decide (z.m = m) && decide (z.c = c) && amt z.a && decide (z.s = sgn k m c z.a kd)
section
variable {P : Program} {w : World} {K : PySem.W.Frag} {mg : Str → Option Value} {base : Heap}
def spSignOf : Sp := fun vs H Q _ => ∃ k m c a kd : Int, vs = [.int k, .int m, .int c, .int a, .int kd] ∧ Bd k ∧ Bd m ∧ Bd c ∧ Bd a ∧ Bd kd ∧ Q (.int (sgn k m c a kd)) H
theorem c_sign_of (T : Tx K mg) : Cl P w K mg base 1 "sign_of" spSignOf [] := by
  refine T.f_sign_of.cl sc_sign_of (fun vs H Q E h => ?_) (fun cdv A outer s H vs Q E hr h => ?_)
  · obtain ⟨_, _, _, _, _, rfl, _⟩ := h
    rfl
  · obtain ⟨k, m, c, a, kd, rfl, b1, b2, b3, b4, b5, q⟩ := h
    refine ⟨_, (pss_one (ps_ret (pe_op op_mod (pe_op op_mulW (pe_op op_add (pv 0) pe_int) (pe_op op_add (pe_op op_add (pe_op op_add (pe_op op_mulW pe_int (pv 1)) (pe_op op_mulW pe_int (pv 2))) (pe_op op_mulW pe_int (pv 3))) (pv 4))) (q_const T.g_WHEEL rfl)))), ?_⟩
    wtm_at "go"
    exact q
def spCodeOf : Sp := fun vs H Q _ => ∃ k m c a kd : Int, vs = [.int k, .int m, .int c, .int a, .int kd] ∧ Bd k ∧ Bd m ∧ Bd c ∧ Bd a ∧ Bd kd ∧
  ∀ p H', H p = none → Mx [] H H' → H' p = some (.tup (mkCd k m c a kd).vs) → Q (.ref p) H'
theorem c_code_of (T : Tx K mg) : Cl P w K mg base 2 "code_of" spCodeOf [] := by
  refine T.f_code_of.cl sc_code_of (fun vs H Q E h => ?_) (fun cdv A outer s H vs Q E hr h => ?_)
  · obtain ⟨_, _, _, _, _, rfl, _⟩ := h
    rfl
  · obtain ⟨k, m, c, a, kd, rfl, b1, b2, b3, b4, b5, q⟩ := h
    refine ⟨_, (pss_one (ps_ret (pe_tup (pa_cons (pv 1) (pa_cons (pv 2) (pa_cons (pv 3) (pa_cons (q_call (c_sign_of T) hr (by decide) rfl (passes_call (takes_of rfl rfl rfl rfl) (fun _ _ _ _ h => h)) (pa_cons (pv 0) (pa_cons (pv 1) (pa_cons (pv 2) (pa_cons (pv 3) (pa_cons (pv 4) pa_nil)))))) pa_nil))))))), ?_⟩
    wtm_at "go"
    refine ⟨k, m, c, a, kd, rfl, b1, b2, b3, b4, b5, ?_⟩
    wtm_at "go"
    exact q _ _ (by assumption) (by assumption) (by assumption)
def spIsAmount : Sp := fun vs H Q _ => ∃ a : Int, vs = [.int a] ∧ Q (.bl (amt a)) H
theorem c_is_amount (T : Tx K mg) : Cl P w K mg base 1 "is_amount" spIsAmount [] := by
  refine T.f_is_amount.cl sc_is_amount (fun vs H Q E h => ?_) (fun cdv A outer s H vs Q E hr h => ?_)
  · obtain ⟨_, rfl, _⟩ := h
    rfl
  · obtain ⟨a, rfl, q⟩ := h
    refine ⟨_, (pss_one (ps_ret (pe_chain op_le op_le pe_int (pv 0) (q_const T.g_MOST_AMOUNT rfl)))), ?_⟩
    unfold amt at q
    wtm_at "go"
    refine g_ite (fun e => ?_) (fun e => ?_)
    · rw [e] at q
      wtm_at "go"
      exact q
    · rw [e] at q
      exact q
def spNeedAmount (T : Tx K mg) : Sp := fun vs H Q E => ∃ a : Int, vs = [.int a] ∧ (amt a = true → Q .non H) ∧ (amt a = false → E (.ref T.E_BadAmount) none H)
theorem c_need_amount (T : Tx K mg) : Cl P w K mg base 2 "need_amount" (spNeedAmount T) [] := by
  refine T.f_need_amount.cl sc_need_amount (fun vs H Q E h => ?_) (fun cdv A outer s H vs Q E hr h => ?_)
  · obtain ⟨_, rfl, _⟩ := h
    rfl
  · obtain ⟨a, rfl, q1, q2⟩ := h
    refine ⟨_, (pss_one (ps_if (pt_not (pt_val (q_call (c_is_amount T) hr (by decide) rfl (passes_call (takes_of rfl rfl rfl rfl) (fun _ _ _ _ h => h)) (pa_cons (pv 0) pa_nil)))) (pss_one (q_raise rfl (takes_of rfl rfl rfl rfl) T.x_BadAmount rfl)) pss_nil)), ?_⟩
    wtm_at "go"
    refine ⟨a, rfl, ?_⟩
    wtm_at "go"
    refine g_ite (fun e => ?_) (fun e => ?_)
    · wtm_at "go"
      exact q2 (by simpa using e)
    · wtm_at "go"
      exact q1 (by simpa using e)
def spIsGood : Sp := fun vs H Q _ => ∃ (k : Int) (t : Addr) (z : Cd) (m c kd : Int), vs = [.int k, .ref t, .int m, .int c, .int kd] ∧ H t = some (.tup z.vs) ∧ Bd k ∧ Bd m ∧ Bd c ∧ Bd kd ∧ Q (.bl (good k z m c kd)) H
theorem c_is_good (T : Tx K mg) : Cl P w K mg base 2 "is_good" spIsGood [] := by
  refine T.f_is_good.cl sc_is_good (fun vs H Q E h => ?_) (fun cdv A outer s H vs Q E hr h => ?_)
  · obtain ⟨_, _, _, _, _, _, rfl, _⟩ := h
    rfl
  · obtain ⟨k, t, z, m, c, kd, rfl, ht, b1, b2, b3, b4, q⟩ := h
    obtain ⟨zm, zc, za, zs⟩ := z
    simp only [Cd.vs] at ht
    unfold good at q
    refine ⟨_, (pss_cons (ps_if (PW.pt (pw_or (pt_cmpR op_ne (pe_ix (ixT K) (pv 1) pe_int (fun _ _ => rfl)) (pv 2) (by first | exact nomark _ | rfl)) (pw_or (pt_cmpR op_ne (pe_ix (ixT K) (pv 1) pe_int (fun _ _ => rfl)) (pv 3) (by first | exact nomark _ | rfl)) (pw_or1 (pt_not (pt_val (q_call (c_is_amount T) hr (by decide) rfl (passes_call (takes_of rfl rfl rfl rfl) (fun _ _ _ _ h => h)) (pa_cons (pe_ix (ixT K) (pv 1) pe_int (fun _ _ => rfl)) pa_nil)))))))) (pss_one (ps_ret pe_bl)) pss_nil)
      (pss_one (ps_ret (pe_cmpR op_eq (pe_ix (ixT K) (pv 1) pe_int (fun _ _ => rfl)) (q_call (c_sign_of T) hr (by decide) rfl (passes_call (takes_of rfl rfl rfl rfl) (fun _ _ _ _ h => h)) (pa_cons (pv 0) (pa_cons (pv 2) (pa_cons (pv 3) (pa_cons (pe_ix (ixT K) (pv 1) pe_int (fun _ _ => rfl)) (pa_cons (pv 4) pa_nil)))))) (by first | exact nomark _ | rfl))))), ?_⟩
    wtm_at "go"
    refine g_ite (fun e => ?_) (fun e => ?_)
    · have e1 : decide (zm = m) = false := by simpa using e
      simp only [e1, Bool.false_and] at q
      wtm_at "go"
      exact q
    · have e1 : decide (zm = m) = true := by simpa using e
      simp only [e1, Bool.true_and] at q
      wtm_at "go"
      refine g_ite (fun e => ?_) (fun e => ?_)
      · have e2 : decide (zc = c) = false := by simpa using e
        simp only [e2, Bool.false_and] at q
        wtm_at "go"
        exact q
      · have e2 : decide (zc = c) = true := by simpa using e
        simp only [e2, Bool.true_and] at q
        wtm_at "go"
        refine ⟨za, rfl, ?_⟩
        wtm_at "go"
        refine g_ite (fun e => ?_) (fun e => ?_)
        · have e3 : amt za = false := by simpa using e
          simp only [e3, Bool.false_and] at q
          wtm_at "go"
          exact q
        · have e3 : amt za = true := by simpa using e
          simp only [e3, Bool.true_and] at q
          have := amt_iff.mp e3
          wtm_at "go"
          refine ⟨k, m, c, za, kd, rfl, b1, b2, b3, (by omega), b4, ?_⟩
          wtm_at "go"
          simpa using q
end
end Fk
namespace Fk
open PySem PySem.Spec PyProof.Rows L2
local macro_rules | `(tactic| wtm_at "ln") => `(tactic| first
  | omega
  | (simp only [List.length_cons, List.length_nil, List.length_map, List.length_append, List.length_replicate, List.length_take, List.length_drop, List.length_set]; omega)
  | (with_unfolding_all exact (by decide)))
local macro_rules | `(tactic| wtm_at "ar") => `(tactic| first
  | ((with_reducible show CMulW _ _); (refine' mulS ?_ ?_ <;> omega))
  | ((with_reducible show CDivW _ _); (refine' divS ?_ ?_ <;> omega))
  | ((with_reducible show CPow _ _); exact ⟨by decide, by decide, by decide⟩)
  | (show (0 : Int) < _; omega)
  | (with_unfolding_all exact (by decide)))
local macro_rules | `(tactic| wtm_at "at") => `(tactic| first
  | assumption
  | (refine' cl_atE ?e80 ?h80; (case' e80 => first | exact rfl | assumption); (case' h80 => wtm_at "ln"))
  | exact rfl)
local macro_rules | `(tactic| wtm_at "fr") => `(tactic| first
  | assumption
  | ((with_reducible refine' Mx.free0 ?m99 ?h99); (case' h99 => assumption); (case' m99 => wtm_at "mo")))
local macro_rules | `(tactic| wtm_at "hp") => `(tactic| first
  | assumption
  | ((with_reducible refine' Mx.get0 ?m1 ?h1); (case' m1 => assumption); (case' h1 => wtm_at "hp"))
  | ((with_reducible refine' Mx.get ?m2 ?n2 ?h2); (case' m2 => assumption); (case' n2 => wtm_at "nin"); (case' h2 => wtm_at "hp")))
local macro_rules | `(tactic| wtm_at "sl") => `(tactic| first
  | assumption
  | ((with_reducible refine' Mx.sqL0 ?m96 ?h96); (case' h96 => assumption); (case' m96 => wtm_at "mo"))
  | (refine' SqL.of ?h3; (case' h3 => wtm_at "hp"))
  | ((with_reducible refine' Mx.sqL0 ?m4 ?h4); (case' m4 => assumption); (case' h4 => wtm_at "sl"))
  | ((with_reducible refine' Mx.sqL ?m5 ?n5 ?h5); (case' m5 => assumption); (case' n5 => wtm_at "nin"); (case' h5 => wtm_at "sl")))
local macro_rules | `(tactic| wtm_at "st") => `(tactic| first
  | assumption
  | ((with_reducible refine' Mx.sqT0 ?m97 ?h97); (case' h97 => assumption); (case' m97 => wtm_at "mo"))
  | (refine' SqT.of ?h6; (case' h6 => wtm_at "hp"))
  | ((with_reducible refine' Mx.sqT0 ?m7 ?h7); (case' m7 => assumption); (case' h7 => wtm_at "st"))
  | ((with_reducible refine' Mx.sqT ?m8 ?n8 ?h8); (case' m8 => assumption); (case' n8 => wtm_at "nin"); (case' h8 => wtm_at "st")))
local macro_rules | `(tactic| wtm_at "mx") => `(tactic| first
  | assumption
  | exact Mx.refl
  | ((with_reducible refine' Mx.of0 ?h9); (case' h9 => assumption))
  | ((with_reducible refine' Mx.trans ?h10 ?m10); (case' m10 => first | assumption | ((with_reducible refine' Mx.of0 ?q10); (case' q10 => assumption))); (case' h10 => wtm_at "mx")))
local macro_rules | `(tactic| wtm_at "mo") => `(tactic| first
  | wtm_at "mx"
  | ((with_reducible refine' Mx.own ?m90 ?f90 ?k90); (case' k90 => assumption); (case' f90 => wtm_at "fr"); (case' m90 => wtm_at "mo"))
  | ((with_reducible refine' Mx.trans ?h91 ?m91); (case' m91 => first | assumption | ((with_reducible refine' Mx.of0 ?q91); (case' q91 => assumption))); (case' h91 => wtm_at "mo")))
local macro_rules | `(tactic| wtm_at "ne") => `(tactic| first
  | assumption
  | exact Ne.symm (by assumption)
  | ((with_reducible refine' ne_of_none ?x94 ?y94); (case' y94 => assumption); (case' x94 => wtm_at "hp"))
  | ((with_reducible refine' Ne.symm (ne_of_none ?x95 ?y95)); (case' y95 => assumption); (case' x95 => wtm_at "hp")))
local macro_rules | `(tactic| wtm_at "nin") => `(tactic| first
  | assumption
  | exact List.not_mem_nil
  | ((with_reducible refine' List.not_mem_cons_of_ne_of_not_mem ?h98 ?t98); (case' h98 => wtm_at "ne"); (case' t98 => wtm_at "nin")))
local macro_rules | `(tactic| wtm_at "g1") => `(tactic| first
  | ((with_reducible refine' g_var ?h11 ?k11); (case' h11 => exact rfl))
  | with_reducible refine' g_c ?_
  | with_reducible refine' g_op ?_
  | with_reducible refine' g_I0 ?_
  | ((with_reducible refine' g_I ?c12 ?k12); (case' c12 => wtm_at "ar"))
  | with_reducible refine' g_cons ?_
  | with_reducible refine' g_nil ?_
  | with_reducible refine' g_seq ?_
  | with_reducible refine' g_asg ?_
  | with_reducible refine' g_name ?_
  | with_reducible refine' g_ret ?_
  | with_reducible refine' g_if ?_
  | with_reducible refine' g_test ?_
  | with_reducible refine' g_tB ?_
  | with_reducible refine' g_bl ?_
  | ((with_reducible refine' g_eq ?h13 ?k13); (case' h13 => exact rfl))
  | ((with_reducible refine' g_ne ?h14 ?k14); (case' h14 => exact rfl))
  | with_reducible refine' g_CB ?_
  | with_reducible refine' g_call ?_
  | with_reducible refine' g_drop ?_
  | with_reducible refine' g_next ?_
  | with_reducible refine' g_not ?_
  | with_reducible refine' g_and ?_
  | with_reducible refine' g_or ?_
  | with_reducible refine' g_un ?_
  | with_reducible refine' g_U ?_
  | with_reducible refine' g_tup ?_
  | with_reducible refine' g_lst ?_
  | ((with_reducible refine' g_kNew ?h15 ?k15); (case' h15 => wtm_at "ln"); (case' k15 => intro _ _ _ _ _))
  | ((with_reducible refine' g_ixL ?h16 ?a16 ?k16); (case' h16 => wtm_at "sl"); (case' a16 => wtm_at "at"))
  | ((with_reducible refine' g_ixT ?h17 ?a17 ?k17); (case' h17 => wtm_at "st"); (case' a17 => wtm_at "at"))
  | with_reducible refine' g_slice ?_
  | with_reducible refine' g_part ?_
  | with_reducible refine' g_kPart ?_
  | with_reducible refine' g_noPart ?_
  | ((with_reducible refine' g_slL ?h18 ?k18); (case' h18 => wtm_at "sl"); (case' k18 => intro _ _ _ _ _))
  | ((with_reducible refine' g_cat ?h119 ?h219 ?l19 ?k19); (case' h119 => wtm_at "hp"); (case' h219 => wtm_at "hp"); (case' l19 => wtm_at "ln"); (case' k19 => intro _ _ _ _ _))
  | ((with_reducible refine' g_rep ?h120 ?h220 ?h320 ?l20 ?k20); (case' h120 => wtm_at "hp"); (case' h220 => wtm_at "ln"); (case' h320 => wtm_at "ln"); (case' l20 => wtm_at "ln"); (case' k20 => intro _ _ _ _ _))
  | ((with_reducible refine' g_append ?h21 ?l21 ?k21); (case' h21 => wtm_at "hp"); (case' l21 => wtm_at "ln"); (case' k21 => intro _ _ _))
  | ((with_reducible refine' g_kBM ?h22 ?k22); (case' h22 => wtm_at "sl"))
  | ((with_reducible refine' g_kBM0 ?h23 ?k23); (case' h23 => wtm_at "sl"))
  | ((with_reducible refine' g_kL ?h24 ?k24); (case' h24 => wtm_at "sl"))
  | ((with_reducible refine' g_kR1 ?h125 ?h225 ?k25); (case' h125 => wtm_at "ln"); (case' h225 => wtm_at "ln"))
  | ((with_reducible refine' g_kR2 ?h126 ?h226 ?h326 ?h426 ?k26); (case' h126 => wtm_at "ln"); (case' h226 => wtm_at "ln"); (case' h326 => wtm_at "ln"); (case' h426 => wtm_at "ln"))
  | ((with_reducible refine' g_lenL ?h27 ?k27); (case' h27 => wtm_at "sl"))
  | ((with_reducible refine' g_lenT ?h28 ?k28); (case' h28 => wtm_at "st"))
  | ((with_reducible refine' g_listL ?h29 ?k29); (case' h29 => wtm_at "sl"); (case' k29 => intro _ _ _ _ _))
  | ((with_reducible refine' g_tupleL ?h30 ?k30); (case' h30 => wtm_at "sl"); (case' k30 => intro _ _ _ _ _))
  | with_reducible refine' g_max ?_
  | with_reducible refine' g_min ?_
  | with_reducible refine' g_intB ?_
  | with_reducible refine' g_fld ?_
  | with_reducible refine' g_put ?_
  | with_reducible refine' g_dget ?_
  | with_reducible refine' g_isN ?_
  | with_reducible refine' g_notN ?_
  | with_reducible refine' g_ifE ?_
  | with_reducible refine' g_andV ?_
  | with_reducible refine' g_orV ?_
  | with_reducible refine' g_notV ?_
  | with_reducible refine' g_kIf ?_
  | with_reducible refine' g_chain ?_
  | with_reducible refine' g_kCh ?_
  | with_reducible refine' g_sub ?_
  | ((with_reducible refine' g_setI ?h92 ?e92 ?j92 ?k92); (case' h92 => wtm_at "hp"); (case' e92 => first | exact rfl | assumption); (case' j92 => wtm_at "ln"); (case' k92 => intro _ _ _))
  | ((with_reducible refine' g_setL ?h89 ?i89 ?k89); (case' h89 => wtm_at "hp"); (case' i89 => exact ixE rfl (by wtm_at "ln")); (case' k89 => intro _ _ _))
  | ((with_reducible refine' g_gtup ?h93 ?e93 ?k93); (case' h93 => wtm_at "st"); (case' e93 => exact rfl))
  | with_reducible refine' g_gcons ?_
  | with_reducible refine' g_gnil ?_
  | with_reducible refine' g_par ?_
  | with_reducible refine' g_kPar ?_
  | with_reducible refine' g_meth ?_
  | with_reducible refine' g_bm ?_
  | with_reducible refine' g_bm0 ?_
  | with_reducible refine' g_raise ?_
  | with_reducible refine' g_for ?_
  | with_reducible refine' g_iR1 ?_
  | with_reducible refine' g_iR2 ?_
  | with_reducible refine' g_iL ?_
  | with_reducible refine' g_lc ?_
  | with_reducible refine' g_retN ?_
  | with_reducible refine' g_no (b := false) rfl ?_
  | with_reducible refine' g_yes (b := true) rfl ?_)
local macro_rules | `(tactic| wtm_at "go") => `(tactic| repeat (wtm_at "g1"))
local macro_rules | `(tactic| wtm_at "gs") => `(tactic| repeat ((fail_if_success (with_reducible refine' g_ifE ?_)); wtm_at "g1"))
local macro_rules | `(tactic| wtm_at "gi") => `(tactic| repeat ((fail_if_success (with_reducible refine' g_if ?_)); wtm_at "g1"))
local macro_rules | `(tactic| wtm_at "gr") => `(tactic| repeat ((fail_if_success (with_reducible refine' g_ret ?_)); wtm_at "g1"))
local macro_rules | `(tactic| wtm_at "gq") => `(tactic| repeat ((fail_if_success (with_reducible refine' g_asg ?_)); wtm_at "g1"))
/-! ### meters -/
structure Mt where
  num : Int
  key : Int
  cells : List Int
  stamps : List (Int × Int)
  up : Bool
/-- the i-th number of the bank that stands -/
def bk (μ : Mt) (i : Nat) : Int := cl (bank μ.cells) i
def mFlds (μ : Mt) (pm pp : Addr) : List (Str × V) := [("own", .int μ.num), ("key", .int μ.key), ("memory", .ref pm), ("prints", .ref pp), ("awake", .bl μ.up)]
/-- the meter μ stands at p, its cells at pm, its stamps at pp -/
structure MetAt (K : PySem.W.Frag) (C : Addr) (H : Hp) (p pm pp : Addr) (μ : Mt) : Prop where
  ob : ∃ dx, H p = some (.ins C dx (mFlds μ pm pp))
  me : H pm = some (.lst (μ.cells.map V.int))
  pr : ∃ vs, H pp = some (.lst vs) ∧ DpAll K H vs (μ.stamps.map stD)
  ne : pm ≠ pp
theorem MetAt.mx {K : PySem.W.Frag} {C : Addr} {S : List Addr} {H H' : Hp} {p pm pp : Addr} {μ : Mt} (M : MetAt K C H p pm pp μ) (m : Mx S H H') (n : NoTup H S) (h1 : p ∉ S) (h2 : pm ∉ S) (h3 : pp ∉ S) : MetAt K C H' p pm pp μ := by
  obtain ⟨⟨dx, ob⟩, me, ⟨vs, pr, dp⟩, ne⟩ := M
  exact ⟨⟨dx, m _ _ ob h1⟩, m _ _ me h2, ⟨vs, m _ _ pr h3, m.sts n dp⟩, ne⟩
theorem noTup0 {H : Hp} : NoTup H [] := fun _ h => by simp at h
theorem MetAt.mx0 {K : PySem.W.Frag} {C : Addr} {H H' : Hp} {p pm pp : Addr} {μ : Mt} (M : MetAt K C H p pm pp μ) (m : Mx [] H H') : MetAt K C H' p pm pp μ := M.mx m noTup0 (by simp) (by simp) (by simp)
theorem MetAt.p_pm {K : PySem.W.Frag} {C : Addr} {H : Hp} {p pm pp : Addr} {μ : Mt} (M : MetAt K C H p pm pp μ) : p ≠ pm := by
  obtain ⟨⟨dx, ob⟩, me, _, _⟩ := M
  exact ne_of ob me fun z => nomatch z
theorem MetAt.p_pp {K : PySem.W.Frag} {C : Addr} {H : Hp} {p pm pp : Addr} {μ : Mt} (M : MetAt K C H p pm pp μ) : p ≠ pp := by
  obtain ⟨⟨dx, ob⟩, _, ⟨vs, pr, _⟩, _⟩ := M
  exact ne_of ob pr fun z => nomatch z
theorem noTupI {H : Hp} {p C dx : Addr} {fs : List (Str × V)} (h : H p = some (.ins C dx fs)) : NoTup H [p] := fun x hx u e => by
  simp at hx; subst hx; rw [h] at e; cases e; exact ⟨(fun _ z => nomatch z), (fun _ _ z => nomatch z)⟩
/-! what a def does to a meter -/
def lastNo (ss : List (Int × Int)) : Int := match ss.getLast? with
  | some s => s.1
  | none => 0
def owed (μ : Mt) : Option (Int × Int) := if lastNo μ.stamps < bk μ 8 then some (bk μ 8, bk μ 9) else none
def wr (cs : List Int) (st : List (Int × Int)) (k : Nat) : List Int := (st.take k).foldl (fun cs s => cs.set s.1.toNat s.2) cs
theorem wr_succ {cs : List Int} {st : List (Int × Int)} {i : Nat} {s : Int × Int} (h : st[i]? = some s) : wr cs st (i + 1) = (wr cs st i).set s.1.toNat s.2 := by
  unfold wr
  rw [List.take_add_one, h, List.foldl_append]
  rfl
theorem wr_len (cs : List Int) (st : List (Int × Int)) (k : Nat) : (wr cs st k).length = cs.length := by
  have : ∀ (st : List (Int × Int)) (b : List Int), (st.foldl (fun cs s => cs.set s.1.toNat s.2) b).length = b.length := by
    intro st
    induction st with
    | nil => intro b; rfl
    | cons c r ih => intro b; rw [List.foldl_cons, ih, List.length_set]
  exact this _ _
theorem stepsOf_len (cs : List Int) (chs : List (Nat × Int)) : (stepsOf cs chs).length = 11 := by simp [stepsOf]
theorem other_le (cs : List Int) : other cs ≤ 10 := by
  have := stand_le cs
  unfold other; omega
theorem stepsOf_ix {cs : List Int} {chs : List (Nat × Int)} {s : Int × Int} (h : s ∈ stepsOf cs chs) : ∃ j : Nat, s.1 = (j : Int) ∧ j < 20 := by
  have := other_le cs
  simp only [stepsOf, List.cons_append, List.mem_cons, List.mem_append, List.mem_map, List.mem_range, List.not_mem_nil, or_false] at h
  rcases h with h | ⟨k, hk, h⟩ | h
  · exact ⟨other cs, by rw [h], by omega⟩
  · exact ⟨other cs + (1 + k), by rw [← h]; simp, by omega⟩
  · exact ⟨other cs, by rw [h], by omega⟩
/-- a cut as it is handed in -/
def cutO : Option Nat → V
  | none => .non
  | some k => .int k
def leftV : Option (Option Nat) → V
  | none => .int (-1)
  | some c => cutO c
def writeM (μ : Mt) (chs : List (Nat × Int)) (cut : Option Nat) : Option (Option Nat) × Mt :=
  match cut with
  | some k => if k < 11 then (none, { μ with cells := wr μ.cells (stepsOf μ.cells chs) k, up := false }) else (some (some (k - 11)), { μ with cells := wr μ.cells (stepsOf μ.cells chs) 11 })
  | none => (some none, { μ with cells := wr μ.cells (stepsOf μ.cells chs) 11 })
def printM (μ : Mt) (cut : Option Nat) : Bool × Mt :=
  match owed μ with
  | none => (true, μ)
  | some s => if cut = some 0 then (false, { μ with up := false }) else (true, { μ with stamps := μ.stamps ++ [s] })
section
variable {P : Program} {w : World} {K : PySem.W.Frag} {mg : Str → Option Value} {base : Heap}
section
variable {σ : L2.St} {H : Hp} {Q : VK} {p pm pp dx : Addr} {μ : Mt} {N : Hp → Prop} {b : Bool}
end
local macro_rules | `(tactic| wtm_at "g1") => `(tactic| first
  | ((with_reducible refine' g_fOwn (by assumption) ?h201 ?k201); (case' h201 => wtm_at "hp"))
  | ((with_reducible refine' g_fKey (by assumption) ?h202 ?k202); (case' h202 => wtm_at "hp"))
  | ((with_reducible refine' g_fMem (by assumption) ?h203 ?k203); (case' h203 => wtm_at "hp"))
  | ((with_reducible refine' g_fPri (by assumption) ?h204 ?k204); (case' h204 => wtm_at "hp"))
  | ((with_reducible refine' g_fAwa (by assumption) ?h205 ?k205); (case' h205 => wtm_at "hp"))
  | ((with_reducible refine' g_pAwa (by assumption) ?h206 ?k206); (case' h206 => wtm_at "hp"); (case' k206 => intro _ _ _))
  | ((with_reducible refine' g_kMeth ?h207 ?l207 ?k207); (case' h207 => wtm_at "hp"); (case' l207 => exact rfl)))

def spNeedKey (T : Tx K mg) : Sp := fun vs H Q E => ∃ a : Int, vs = [.int a] ∧ (0 ≤ a ∧ a ≤ 999981 → Q .non H) ∧ (¬ (0 ≤ a ∧ a ≤ 999981) → E (.ref T.E_BadNumber) none H)
theorem c_need_key (T : Tx K mg) : Cl P w K mg base 1 "need_key" (spNeedKey T) [] := by
  refine T.f_need_key.cl sc_need_key (fun vs H Q E h => ?_) (fun cdv A outer s H vs Q E hr h => ?_)
  · obtain ⟨_, rfl, _⟩ := h
    rfl
  · obtain ⟨a, rfl, q1, q2⟩ := h
    refine ⟨_, (pss_one (ps_if (pt_not (pt_chain op_le op_le pe_int (pv 0) (q_const T.g_MOST_KEY rfl))) (pss_one (q_raise rfl (takes_of rfl rfl rfl rfl) T.x_BadNumber rfl)) pss_nil)), ?_⟩
    wtm_at "go"
    refine g_ite (fun e => ?_) (fun e => ?_)
    · wtm_at "go"
      refine g_ite (fun e2 => ?_) (fun e2 => ?_)
      · wtm_at "go"
        simp at e e2
        exact q2 (by omega)
      · wtm_at "go"
        simp at e e2
        exact q1 (by omega)
    · wtm_at "go"
      simp at e
      exact q2 (by omega)
def spNeedNumber (T : Tx K mg) : Sp := fun vs H Q E => ∃ a : Int, vs = [.int a] ∧ (1 ≤ a ∧ a ≤ 9999 → Q .non H) ∧ (¬ (1 ≤ a ∧ a ≤ 9999) → E (.ref T.E_BadNumber) none H)
theorem c_need_number (T : Tx K mg) : Cl P w K mg base 1 "need_number" (spNeedNumber T) [] := by
  refine T.f_need_number.cl sc_need_number (fun vs H Q E h => ?_) (fun cdv A outer s H vs Q E hr h => ?_)
  · obtain ⟨_, rfl, _⟩ := h
    rfl
  · obtain ⟨a, rfl, q1, q2⟩ := h
    refine ⟨_, (pss_one (ps_if (pt_not (pt_chain op_le op_le pe_int (pv 0) (q_const T.g_MOST_NUMBER rfl))) (pss_one (q_raise rfl (takes_of rfl rfl rfl rfl) T.x_BadNumber rfl)) pss_nil)), ?_⟩
    wtm_at "go"
    refine g_ite (fun e => ?_) (fun e => ?_)
    · wtm_at "go"
      refine g_ite (fun e2 => ?_) (fun e2 => ?_)
      · wtm_at "go"
        simp at e e2
        exact q2 (by omega)
      · wtm_at "go"
        simp at e e2
        exact q1 (by omega)
    · wtm_at "go"
      simp at e
      exact q2 (by omega)
end
end Fk
namespace Fk
open PySem PySem.Spec PyProof.Rows L2
local macro_rules | `(tactic| wtm_at "ln") => `(tactic| first
  | omega
  | (simp only [List.length_cons, List.length_nil, List.length_map, List.length_append, List.length_replicate, List.length_take, List.length_drop, List.length_set]; omega)
  | (with_unfolding_all exact (by decide)))
local macro_rules | `(tactic| wtm_at "ar") => `(tactic| first
  | ((with_reducible show CMulW _ _); (refine' mulS ?_ ?_ <;> omega))
  | ((with_reducible show CDivW _ _); (refine' divS ?_ ?_ <;> omega))
  | ((with_reducible show CPow _ _); exact ⟨by decide, by decide, by decide⟩)
  | (show (0 : Int) < _; omega)
  | (with_unfolding_all exact (by decide)))
local macro_rules | `(tactic| wtm_at "at") => `(tactic| first
  | assumption
  | (refine' cl_atE ?e80 ?h80; (case' e80 => first | exact rfl | assumption); (case' h80 => wtm_at "ln"))
  | exact rfl)
local macro_rules | `(tactic| wtm_at "fr") => `(tactic| first
  | assumption
  | ((with_reducible refine' Mx.free0 ?m99 ?h99); (case' h99 => assumption); (case' m99 => wtm_at "mo")))
local macro_rules | `(tactic| wtm_at "hp") => `(tactic| first
  | assumption
  | ((with_reducible refine' Mx.get0 ?m1 ?h1); (case' m1 => assumption); (case' h1 => wtm_at "hp"))
  | ((with_reducible refine' Mx.get ?m2 ?n2 ?h2); (case' m2 => assumption); (case' n2 => wtm_at "nin"); (case' h2 => wtm_at "hp")))
local macro_rules | `(tactic| wtm_at "sl") => `(tactic| first
  | assumption
  | ((with_reducible refine' Mx.sqL0 ?m96 ?h96); (case' h96 => assumption); (case' m96 => wtm_at "mo"))
  | (refine' SqL.of ?h3; (case' h3 => wtm_at "hp"))
  | ((with_reducible refine' Mx.sqL0 ?m4 ?h4); (case' m4 => assumption); (case' h4 => wtm_at "sl"))
  | ((with_reducible refine' Mx.sqL ?m5 ?n5 ?h5); (case' m5 => assumption); (case' n5 => wtm_at "nin"); (case' h5 => wtm_at "sl")))
local macro_rules | `(tactic| wtm_at "st") => `(tactic| first
  | assumption
  | ((with_reducible refine' Mx.sqT0 ?m97 ?h97); (case' h97 => assumption); (case' m97 => wtm_at "mo"))
  | (refine' SqT.of ?h6; (case' h6 => wtm_at "hp"))
  | ((with_reducible refine' Mx.sqT0 ?m7 ?h7); (case' m7 => assumption); (case' h7 => wtm_at "st"))
  | ((with_reducible refine' Mx.sqT ?m8 ?n8 ?h8); (case' m8 => assumption); (case' n8 => wtm_at "nin"); (case' h8 => wtm_at "st")))
local macro_rules | `(tactic| wtm_at "mx") => `(tactic| first
  | assumption
  | exact Mx.refl
  | ((with_reducible refine' Mx.of0 ?h9); (case' h9 => assumption))
  | ((with_reducible refine' Mx.trans ?h10 ?m10); (case' m10 => first | assumption | ((with_reducible refine' Mx.of0 ?q10); (case' q10 => assumption))); (case' h10 => wtm_at "mx")))
local macro_rules | `(tactic| wtm_at "mo") => `(tactic| first
  | wtm_at "mx"
  | ((with_reducible refine' Mx.own ?m90 ?f90 ?k90); (case' k90 => assumption); (case' f90 => wtm_at "fr"); (case' m90 => wtm_at "mo"))
  | ((with_reducible refine' Mx.trans ?h91 ?m91); (case' m91 => first | assumption | ((with_reducible refine' Mx.of0 ?q91); (case' q91 => assumption))); (case' h91 => wtm_at "mo")))
local macro_rules | `(tactic| wtm_at "ne") => `(tactic| first
  | assumption
  | exact Ne.symm (by assumption)
  | ((with_reducible refine' ne_of_none ?x94 ?y94); (case' y94 => assumption); (case' x94 => wtm_at "hp"))
  | ((with_reducible refine' Ne.symm (ne_of_none ?x95 ?y95)); (case' y95 => assumption); (case' x95 => wtm_at "hp")))
local macro_rules | `(tactic| wtm_at "nin") => `(tactic| first
  | assumption
  | exact List.not_mem_nil
  | ((with_reducible refine' List.not_mem_cons_of_ne_of_not_mem ?h98 ?t98); (case' h98 => wtm_at "ne"); (case' t98 => wtm_at "nin")))
local macro_rules | `(tactic| wtm_at "g1") => `(tactic| first
  | ((with_reducible refine' g_var ?h11 ?k11); (case' h11 => exact rfl))
  | with_reducible refine' g_c ?_
  | with_reducible refine' g_op ?_
  | with_reducible refine' g_I0 ?_
  | ((with_reducible refine' g_I ?c12 ?k12); (case' c12 => wtm_at "ar"))
  | with_reducible refine' g_cons ?_
  | with_reducible refine' g_nil ?_
  | with_reducible refine' g_seq ?_
  | with_reducible refine' g_asg ?_
  | with_reducible refine' g_name ?_
  | with_reducible refine' g_ret ?_
  | with_reducible refine' g_if ?_
  | with_reducible refine' g_test ?_
  | with_reducible refine' g_tB ?_
  | with_reducible refine' g_bl ?_
  | ((with_reducible refine' g_eq ?h13 ?k13); (case' h13 => exact rfl))
  | ((with_reducible refine' g_ne ?h14 ?k14); (case' h14 => exact rfl))
  | with_reducible refine' g_CB ?_
  | with_reducible refine' g_call ?_
  | with_reducible refine' g_drop ?_
  | with_reducible refine' g_next ?_
  | with_reducible refine' g_not ?_
  | with_reducible refine' g_and ?_
  | with_reducible refine' g_or ?_
  | with_reducible refine' g_un ?_
  | with_reducible refine' g_U ?_
  | with_reducible refine' g_tup ?_
  | with_reducible refine' g_lst ?_
  | ((with_reducible refine' g_kNew ?h15 ?k15); (case' h15 => wtm_at "ln"); (case' k15 => intro _ _ _ _ _))
  | ((with_reducible refine' g_ixL ?h16 ?a16 ?k16); (case' h16 => wtm_at "sl"); (case' a16 => wtm_at "at"))
  | ((with_reducible refine' g_ixT ?h17 ?a17 ?k17); (case' h17 => wtm_at "st"); (case' a17 => wtm_at "at"))
  | with_reducible refine' g_slice ?_
  | with_reducible refine' g_part ?_
  | with_reducible refine' g_kPart ?_
  | with_reducible refine' g_noPart ?_
  | ((with_reducible refine' g_slL ?h18 ?k18); (case' h18 => wtm_at "sl"); (case' k18 => intro _ _ _ _ _))
  | ((with_reducible refine' g_cat ?h119 ?h219 ?l19 ?k19); (case' h119 => wtm_at "hp"); (case' h219 => wtm_at "hp"); (case' l19 => wtm_at "ln"); (case' k19 => intro _ _ _ _ _))
  | ((with_reducible refine' g_rep ?h120 ?h220 ?h320 ?l20 ?k20); (case' h120 => wtm_at "hp"); (case' h220 => wtm_at "ln"); (case' h320 => wtm_at "ln"); (case' l20 => wtm_at "ln"); (case' k20 => intro _ _ _ _ _))
  | ((with_reducible refine' g_append ?h21 ?l21 ?k21); (case' h21 => wtm_at "hp"); (case' l21 => wtm_at "ln"); (case' k21 => intro _ _ _))
  | ((with_reducible refine' g_kBM ?h22 ?k22); (case' h22 => wtm_at "sl"))
  | ((with_reducible refine' g_kBM0 ?h23 ?k23); (case' h23 => wtm_at "sl"))
  | ((with_reducible refine' g_kL ?h24 ?k24); (case' h24 => wtm_at "sl"))
  | ((with_reducible refine' g_kR1 ?h125 ?h225 ?k25); (case' h125 => wtm_at "ln"); (case' h225 => wtm_at "ln"))
  | ((with_reducible refine' g_kR2 ?h126 ?h226 ?h326 ?h426 ?k26); (case' h126 => wtm_at "ln"); (case' h226 => wtm_at "ln"); (case' h326 => wtm_at "ln"); (case' h426 => wtm_at "ln"))
  | ((with_reducible refine' g_lenL ?h27 ?k27); (case' h27 => wtm_at "sl"))
  | ((with_reducible refine' g_lenT ?h28 ?k28); (case' h28 => wtm_at "st"))
  | ((with_reducible refine' g_listL ?h29 ?k29); (case' h29 => wtm_at "sl"); (case' k29 => intro _ _ _ _ _))
  | ((with_reducible refine' g_tupleL ?h30 ?k30); (case' h30 => wtm_at "sl"); (case' k30 => intro _ _ _ _ _))
  | with_reducible refine' g_max ?_
  | with_reducible refine' g_min ?_
  | with_reducible refine' g_intB ?_
  | with_reducible refine' g_fld ?_
  | with_reducible refine' g_put ?_
  | with_reducible refine' g_dget ?_
  | with_reducible refine' g_isN ?_
  | with_reducible refine' g_notN ?_
  | with_reducible refine' g_ifE ?_
  | with_reducible refine' g_andV ?_
  | with_reducible refine' g_orV ?_
  | with_reducible refine' g_notV ?_
  | with_reducible refine' g_kIf ?_
  | with_reducible refine' g_chain ?_
  | with_reducible refine' g_kCh ?_
  | with_reducible refine' g_sub ?_
  | ((with_reducible refine' g_setI ?h92 ?e92 ?j92 ?k92); (case' h92 => wtm_at "hp"); (case' e92 => first | exact rfl | assumption); (case' j92 => wtm_at "ln"); (case' k92 => intro _ _ _))
  | ((with_reducible refine' g_setL ?h89 ?i89 ?k89); (case' h89 => wtm_at "hp"); (case' i89 => exact ixE rfl (by wtm_at "ln")); (case' k89 => intro _ _ _))
  | ((with_reducible refine' g_gtup ?h93 ?e93 ?k93); (case' h93 => wtm_at "st"); (case' e93 => exact rfl))
  | with_reducible refine' g_gcons ?_
  | with_reducible refine' g_gnil ?_
  | with_reducible refine' g_par ?_
  | with_reducible refine' g_kPar ?_
  | with_reducible refine' g_meth ?_
  | with_reducible refine' g_bm ?_
  | with_reducible refine' g_bm0 ?_
  | with_reducible refine' g_raise ?_
  | with_reducible refine' g_for ?_
  | with_reducible refine' g_iR1 ?_
  | with_reducible refine' g_iR2 ?_
  | with_reducible refine' g_iL ?_
  | with_reducible refine' g_lc ?_
  | with_reducible refine' g_retN ?_
  | with_reducible refine' g_no (b := false) rfl ?_
  | with_reducible refine' g_yes (b := true) rfl ?_)
local macro_rules | `(tactic| wtm_at "go") => `(tactic| repeat (wtm_at "g1"))
local macro_rules | `(tactic| wtm_at "gs") => `(tactic| repeat ((fail_if_success (with_reducible refine' g_ifE ?_)); wtm_at "g1"))
local macro_rules | `(tactic| wtm_at "gi") => `(tactic| repeat ((fail_if_success (with_reducible refine' g_if ?_)); wtm_at "g1"))
local macro_rules | `(tactic| wtm_at "gr") => `(tactic| repeat ((fail_if_success (with_reducible refine' g_ret ?_)); wtm_at "g1"))
local macro_rules | `(tactic| wtm_at "gq") => `(tactic| repeat ((fail_if_success (with_reducible refine' g_asg ?_)); wtm_at "g1"))
section
variable {P : Program} {w : World} {K : PySem.W.Frag} {mg : Str → Option Value} {base : Heap}
local macro_rules | `(tactic| wtm_at "g1") => `(tactic| first
  | ((with_reducible refine' g_fOwn (by assumption) ?h201 ?k201); (case' h201 => wtm_at "hp"))
  | ((with_reducible refine' g_fKey (by assumption) ?h202 ?k202); (case' h202 => wtm_at "hp"))
  | ((with_reducible refine' g_fMem (by assumption) ?h203 ?k203); (case' h203 => wtm_at "hp"))
  | ((with_reducible refine' g_fPri (by assumption) ?h204 ?k204); (case' h204 => wtm_at "hp"))
  | ((with_reducible refine' g_fAwa (by assumption) ?h205 ?k205); (case' h205 => wtm_at "hp"))
  | ((with_reducible refine' g_pAwa (by assumption) ?h206 ?k206); (case' h206 => wtm_at "hp"); (case' k206 => intro _ _ _))
  | ((with_reducible refine' g_kMeth ?h207 ?l207 ?k207); (case' h207 => wtm_at "hp"); (case' l207 => exact rfl)))

theorem cut_zero {c : Option Nat} (h : decide (cutO c = V.int 0) = true) : c = some 0 := by
  cases c with
  | none => simp [cutO] at h
  | some k => simp [cutO] at h; simp [h]
theorem cut_pos {c : Option Nat} (h : decide (cutO c = V.int 0) = false) : c ≠ some 0 := by
  rintro rfl
  simp [cutO] at h
theorem scal_cut (c : Option Nat) : scal (cutO c) (.int 0) = true := by cases c <;> rfl
theorem scal_left (c : Option (Option Nat)) : scal (leftV c) (.int (-1)) = true := by cases c with
  | none => rfl
  | some c => cases c <;> rfl
/-- owed -/
theorem last_at {vs : List V} {ss : List (Int × Int)} {H : Hp} (d : DpAll K H vs (ss.map stD)) (hn : ss ≠ []) : ∃ v, atI vs (-1) = some v ∧ ∃ s, ss.getLast? = some s ∧ Dp K H v (stD s) := by
  have hl := d.len
  rw [List.length_map] at hl
  have h0 : ss.length ≠ 0 := fun z => hn (List.length_eq_zero_iff.mp z)
  obtain ⟨s, hs⟩ : ∃ s, ss[ss.length - 1]? = some s := ⟨_, List.getElem?_eq_getElem (by omega)⟩
  obtain ⟨v, hv, hd⟩ := d.get (i := ss.length - 1) (d := stD s) (by rw [List.getElem?_map, hs]; rfl)
  refine ⟨v, ?_, s, by rw [List.getLast?_eq_getElem?]; exact hs, hd⟩
  unfold atI ixN
  rw [if_neg (by omega), if_pos (by omega)]
  show vs[(-1 + (vs.length : Int)).toNat]? = some v
  rw [show (-1 + (vs.length : Int)).toNat = ss.length - 1 by omega]
  exact hv
end
end Fk
namespace Fk
open PySem PySem.Spec PyProof.Rows L2
local macro_rules | `(tactic| wtm_at "ln") => `(tactic| first
  | omega
  | (simp only [List.length_cons, List.length_nil, List.length_map, List.length_append, List.length_replicate, List.length_take, List.length_drop, List.length_set]; omega)
  | (with_unfolding_all exact (by decide)))
local macro_rules | `(tactic| wtm_at "ar") => `(tactic| first
  | ((with_reducible show CMulW _ _); (refine' mulS ?_ ?_ <;> omega))
  | ((with_reducible show CDivW _ _); (refine' divS ?_ ?_ <;> omega))
  | ((with_reducible show CPow _ _); exact ⟨by decide, by decide, by decide⟩)
  | (show (0 : Int) < _; omega)
  | (with_unfolding_all exact (by decide)))
local macro_rules | `(tactic| wtm_at "at") => `(tactic| first
  | assumption
  | (refine' cl_atE ?e80 ?h80; (case' e80 => first | exact rfl | assumption); (case' h80 => wtm_at "ln"))
  | exact rfl)
local macro_rules | `(tactic| wtm_at "fr") => `(tactic| first
  | assumption
  | ((with_reducible refine' Mx.free0 ?m99 ?h99); (case' h99 => assumption); (case' m99 => wtm_at "mo")))
local macro_rules | `(tactic| wtm_at "hp") => `(tactic| first
  | assumption
  | ((with_reducible refine' Mx.get0 ?m1 ?h1); (case' m1 => assumption); (case' h1 => wtm_at "hp"))
  | ((with_reducible refine' Mx.get ?m2 ?n2 ?h2); (case' m2 => assumption); (case' n2 => wtm_at "nin"); (case' h2 => wtm_at "hp")))
local macro_rules | `(tactic| wtm_at "sl") => `(tactic| first
  | assumption
  | ((with_reducible refine' Mx.sqL0 ?m96 ?h96); (case' h96 => assumption); (case' m96 => wtm_at "mo"))
  | (refine' SqL.of ?h3; (case' h3 => wtm_at "hp"))
  | ((with_reducible refine' Mx.sqL0 ?m4 ?h4); (case' m4 => assumption); (case' h4 => wtm_at "sl"))
  | ((with_reducible refine' Mx.sqL ?m5 ?n5 ?h5); (case' m5 => assumption); (case' n5 => wtm_at "nin"); (case' h5 => wtm_at "sl")))
local macro_rules | `(tactic| wtm_at "st") => `(tactic| first
  | assumption
  | ((with_reducible refine' Mx.sqT0 ?m97 ?h97); (case' h97 => assumption); (case' m97 => wtm_at "mo"))
  | (refine' SqT.of ?h6; (case' h6 => wtm_at "hp"))
  | ((with_reducible refine' Mx.sqT0 ?m7 ?h7); (case' m7 => assumption); (case' h7 => wtm_at "st"))
  | ((with_reducible refine' Mx.sqT ?m8 ?n8 ?h8); (case' m8 => assumption); (case' n8 => wtm_at "nin"); (case' h8 => wtm_at "st")))
local macro_rules | `(tactic| wtm_at "mx") => `(tactic| first
  | assumption
  | exact Mx.refl
  | ((with_reducible refine' Mx.of0 ?h9); (case' h9 => assumption))
  | ((with_reducible refine' Mx.trans ?h10 ?m10); (case' m10 => first | assumption | ((with_reducible refine' Mx.of0 ?q10); (case' q10 => assumption))); (case' h10 => wtm_at "mx")))
local macro_rules | `(tactic| wtm_at "mo") => `(tactic| first
  | wtm_at "mx"
  | ((with_reducible refine' Mx.own ?m90 ?f90 ?k90); (case' k90 => assumption); (case' f90 => wtm_at "fr"); (case' m90 => wtm_at "mo"))
  | ((with_reducible refine' Mx.trans ?h91 ?m91); (case' m91 => first | assumption | ((with_reducible refine' Mx.of0 ?q91); (case' q91 => assumption))); (case' h91 => wtm_at "mo")))
local macro_rules | `(tactic| wtm_at "ne") => `(tactic| first
  | assumption
  | exact Ne.symm (by assumption)
  | ((with_reducible refine' ne_of_none ?x94 ?y94); (case' y94 => assumption); (case' x94 => wtm_at "hp"))
  | ((with_reducible refine' Ne.symm (ne_of_none ?x95 ?y95)); (case' y95 => assumption); (case' x95 => wtm_at "hp")))
local macro_rules | `(tactic| wtm_at "nin") => `(tactic| first
  | assumption
  | exact List.not_mem_nil
  | ((with_reducible refine' List.not_mem_cons_of_ne_of_not_mem ?h98 ?t98); (case' h98 => wtm_at "ne"); (case' t98 => wtm_at "nin")))
local macro_rules | `(tactic| wtm_at "g1") => `(tactic| first
  | ((with_reducible refine' g_var ?h11 ?k11); (case' h11 => exact rfl))
  | with_reducible refine' g_c ?_
  | with_reducible refine' g_op ?_
  | with_reducible refine' g_I0 ?_
  | ((with_reducible refine' g_I ?c12 ?k12); (case' c12 => wtm_at "ar"))
  | with_reducible refine' g_cons ?_
  | with_reducible refine' g_nil ?_
  | with_reducible refine' g_seq ?_
  | with_reducible refine' g_asg ?_
  | with_reducible refine' g_name ?_
  | with_reducible refine' g_ret ?_
  | with_reducible refine' g_if ?_
  | with_reducible refine' g_test ?_
  | with_reducible refine' g_tB ?_
  | with_reducible refine' g_bl ?_
  | ((with_reducible refine' g_eq ?h13 ?k13); (case' h13 => exact rfl))
  | ((with_reducible refine' g_ne ?h14 ?k14); (case' h14 => exact rfl))
  | with_reducible refine' g_CB ?_
  | with_reducible refine' g_call ?_
  | with_reducible refine' g_drop ?_
  | with_reducible refine' g_next ?_
  | with_reducible refine' g_not ?_
  | with_reducible refine' g_and ?_
  | with_reducible refine' g_or ?_
  | with_reducible refine' g_un ?_
  | with_reducible refine' g_U ?_
  | with_reducible refine' g_tup ?_
  | with_reducible refine' g_lst ?_
  | ((with_reducible refine' g_kNew ?h15 ?k15); (case' h15 => wtm_at "ln"); (case' k15 => intro _ _ _ _ _))
  | ((with_reducible refine' g_ixL ?h16 ?a16 ?k16); (case' h16 => wtm_at "sl"); (case' a16 => wtm_at "at"))
  | ((with_reducible refine' g_ixT ?h17 ?a17 ?k17); (case' h17 => wtm_at "st"); (case' a17 => wtm_at "at"))
  | with_reducible refine' g_slice ?_
  | with_reducible refine' g_part ?_
  | with_reducible refine' g_kPart ?_
  | with_reducible refine' g_noPart ?_
  | ((with_reducible refine' g_slL ?h18 ?k18); (case' h18 => wtm_at "sl"); (case' k18 => intro _ _ _ _ _))
  | ((with_reducible refine' g_cat ?h119 ?h219 ?l19 ?k19); (case' h119 => wtm_at "hp"); (case' h219 => wtm_at "hp"); (case' l19 => wtm_at "ln"); (case' k19 => intro _ _ _ _ _))
  | ((with_reducible refine' g_rep ?h120 ?h220 ?h320 ?l20 ?k20); (case' h120 => wtm_at "hp"); (case' h220 => wtm_at "ln"); (case' h320 => wtm_at "ln"); (case' l20 => wtm_at "ln"); (case' k20 => intro _ _ _ _ _))
  | ((with_reducible refine' g_append ?h21 ?l21 ?k21); (case' h21 => wtm_at "hp"); (case' l21 => wtm_at "ln"); (case' k21 => intro _ _ _))
  | ((with_reducible refine' g_kBM ?h22 ?k22); (case' h22 => wtm_at "sl"))
  | ((with_reducible refine' g_kBM0 ?h23 ?k23); (case' h23 => wtm_at "sl"))
  | ((with_reducible refine' g_kL ?h24 ?k24); (case' h24 => wtm_at "sl"))
  | ((with_reducible refine' g_kR1 ?h125 ?h225 ?k25); (case' h125 => wtm_at "ln"); (case' h225 => wtm_at "ln"))
  | ((with_reducible refine' g_kR2 ?h126 ?h226 ?h326 ?h426 ?k26); (case' h126 => wtm_at "ln"); (case' h226 => wtm_at "ln"); (case' h326 => wtm_at "ln"); (case' h426 => wtm_at "ln"))
  | ((with_reducible refine' g_lenL ?h27 ?k27); (case' h27 => wtm_at "sl"))
  | ((with_reducible refine' g_lenT ?h28 ?k28); (case' h28 => wtm_at "st"))
  | ((with_reducible refine' g_listL ?h29 ?k29); (case' h29 => wtm_at "sl"); (case' k29 => intro _ _ _ _ _))
  | ((with_reducible refine' g_tupleL ?h30 ?k30); (case' h30 => wtm_at "sl"); (case' k30 => intro _ _ _ _ _))
  | with_reducible refine' g_max ?_
  | with_reducible refine' g_min ?_
  | with_reducible refine' g_intB ?_
  | with_reducible refine' g_fld ?_
  | with_reducible refine' g_put ?_
  | with_reducible refine' g_dget ?_
  | with_reducible refine' g_isN ?_
  | with_reducible refine' g_notN ?_
  | with_reducible refine' g_ifE ?_
  | with_reducible refine' g_andV ?_
  | with_reducible refine' g_orV ?_
  | with_reducible refine' g_notV ?_
  | with_reducible refine' g_kIf ?_
  | with_reducible refine' g_chain ?_
  | with_reducible refine' g_kCh ?_
  | with_reducible refine' g_sub ?_
  | ((with_reducible refine' g_setI ?h92 ?e92 ?j92 ?k92); (case' h92 => wtm_at "hp"); (case' e92 => first | exact rfl | assumption); (case' j92 => wtm_at "ln"); (case' k92 => intro _ _ _))
  | ((with_reducible refine' g_setL ?h89 ?i89 ?k89); (case' h89 => wtm_at "hp"); (case' i89 => exact ixE rfl (by wtm_at "ln")); (case' k89 => intro _ _ _))
  | ((with_reducible refine' g_gtup ?h93 ?e93 ?k93); (case' h93 => wtm_at "st"); (case' e93 => exact rfl))
  | with_reducible refine' g_gcons ?_
  | with_reducible refine' g_gnil ?_
  | with_reducible refine' g_par ?_
  | with_reducible refine' g_kPar ?_
  | with_reducible refine' g_meth ?_
  | with_reducible refine' g_bm ?_
  | with_reducible refine' g_bm0 ?_
  | with_reducible refine' g_raise ?_
  | with_reducible refine' g_for ?_
  | with_reducible refine' g_iR1 ?_
  | with_reducible refine' g_iR2 ?_
  | with_reducible refine' g_iL ?_
  | with_reducible refine' g_lc ?_
  | with_reducible refine' g_retN ?_
  | with_reducible refine' g_no (b := false) rfl ?_
  | with_reducible refine' g_yes (b := true) rfl ?_)
local macro_rules | `(tactic| wtm_at "go") => `(tactic| repeat (wtm_at "g1"))
local macro_rules | `(tactic| wtm_at "gs") => `(tactic| repeat ((fail_if_success (with_reducible refine' g_ifE ?_)); wtm_at "g1"))
local macro_rules | `(tactic| wtm_at "gi") => `(tactic| repeat ((fail_if_success (with_reducible refine' g_if ?_)); wtm_at "g1"))
local macro_rules | `(tactic| wtm_at "gr") => `(tactic| repeat ((fail_if_success (with_reducible refine' g_ret ?_)); wtm_at "g1"))
local macro_rules | `(tactic| wtm_at "gq") => `(tactic| repeat ((fail_if_success (with_reducible refine' g_asg ?_)); wtm_at "g1"))
/-! ### the plain law of a bank written -/
theorem cl_set_ne {cs : List Int} {i j : Nat} {v : Int} (h : j ≠ i) : cl (cs.set i v) j = cl cs j := by
  unfold cl
  rw [List.getD_eq_getElem?_getD, List.getD_eq_getElem?_getD, List.getElem?_set_ne (Ne.symm h)]
theorem cl_set_eq {cs : List Int} {i : Nat} {v : Int} (h : i < cs.length) : cl (cs.set i v) i = v := by
  unfold cl
  rw [List.getD_eq_getElem?_getD, List.getElem?_set_self h]
  rfl
theorem cl_map_range {n i : Nat} {f : Nat → Int} (h : i < n) : cl ((List.range n).map f) i = f i := by
  unfold cl
  rw [List.getD_eq_getElem?_getD, List.getElem?_map, List.getElem?_range h]
  rfl
theorem ext_cl {xs ys : List Int} (h : xs.length = ys.length) (e : ∀ i, i < xs.length → cl xs i = cl ys i) : xs = ys := by
  apply List.ext_getElem h
  intro i h1 h2
  have := e i h1
  unfold cl at this
  rw [List.getD_eq_getElem?_getD, List.getD_eq_getElem?_getD, List.getElem?_eq_getElem h1, List.getElem?_eq_getElem h2] at this
  exact this
theorem cl_take {cs : List Int} {n i : Nat} (h : i < n) : cl (cs.take n) i = cl cs i := by
  unfold cl
  rw [List.getD_eq_getElem?_getD, List.getD_eq_getElem?_getD, List.getElem?_take_of_lt h]
theorem cl_drop {cs : List Int} {n i : Nat} : cl (cs.drop n) i = cl cs (n + i) := by
  unfold cl
  rw [List.getD_eq_getElem?_getD, List.getD_eq_getElem?_getD, List.getElem?_drop]
theorem cl_bank {cs : List Int} {i : Nat} (h : i < 10) : cl (bank cs) i = cl cs (stand cs * 10 + i) := by
  unfold bank
  rw [cl_take h, cl_drop]
theorem stand_whole {cs : List Int} (h : Any cs) : cl cs (stand cs * 10) = 1 := by
  unfold stand
  split
  · rename_i z; simpa using z.1
  · rename_i z
    rcases h.2 with e | e
    · exact Classical.byContradiction fun q => z ⟨e, fun y => q (by simpa using y.1)⟩
    · simpa using e
theorem other_stand (cs : List Int) : (stand cs = 0 ∧ other cs = 10) ∨ (stand cs = 1 ∧ other cs = 0) := by
  have := stand_le cs
  unfold other
  omega
/-- what the steps leave at a cell: by the steps done -/
theorem wr_other {cs : List Int} {chs : List (Nat × Int)} {k j : Nat} (h : ∀ s ∈ stepsOf cs chs, s.1 ≠ (j : Int)) : cl (wr cs (stepsOf cs chs) k) j = cl cs j := by
  induction k with
  | zero => rfl
  | succ k ih =>
    cases e : (stepsOf cs chs)[k]? with
    | none =>
      have : wr cs (stepsOf cs chs) (k + 1) = wr cs (stepsOf cs chs) k := by
        have hk := List.getElem?_eq_none_iff.mp e
        unfold wr
        rw [List.take_of_length_le hk, List.take_of_length_le (by omega)]
      rw [this, ih]
    | some s =>
      rw [wr_succ e, cl_set_ne ?_, ih]
      have := h s (List.mem_of_getElem? e)
      obtain ⟨i, ei, _⟩ := stepsOf_ix (List.mem_of_getElem? e)
      omega
theorem steps_in {cs : List Int} {chs : List (Nat × Int)} {s : Int × Int} (h : s ∈ stepsOf cs chs) : (other cs : Int) ≤ s.1 ∧ s.1 < other cs + 10 := by
  simp only [stepsOf, List.cons_append, List.mem_cons, List.mem_append, List.mem_map, List.mem_range, List.not_mem_nil, or_false] at h
  rcases h with h | ⟨k, hk, h⟩ | h
  · rw [h]; simp; omega
  · rw [← h]; simp; omega
  · rw [h]; simp; omega
theorem wr_stand {cs : List Int} {chs : List (Nat × Int)} {k i : Nat} (h : i < 10) : cl (wr cs (stepsOf cs chs) k) (stand cs * 10 + i) = cl cs (stand cs * 10 + i) := by
  refine wr_other fun s hs => ?_
  have := steps_in hs
  rcases other_stand cs with ⟨a, b⟩ | ⟨a, b⟩ <;> rw [a] <;> rw [b] at this <;> simp at * <;> omega
theorem any_wr {cs : List Int} {chs : List (Nat × Int)} {k : Nat} (h : Any cs) : Any (wr cs (stepsOf cs chs) k) := by
  have hw := stand_whole h
  have := wr_stand (cs := cs) (chs := chs) (k := k) (i := 0) (by omega)
  simp only [Nat.add_zero] at this
  refine ⟨by rw [wr_len]; exact h.1, ?_⟩
  rcases other_stand cs with ⟨a, b⟩ | ⟨a, b⟩ <;> rw [a] at this hw <;> simp at this hw
  · exact .inl (this.trans hw)
  · exact .inr (this.trans hw)
/-- the first k steps: the other bank's whole is 0, then its cells one by one -/
theorem wr_do {cs : List Int} {chs : List (Nat × Int)} (hl : cs.length = 20) : ∀ k, k < 10 → ∀ i, i < 10 → cl (wr cs (stepsOf cs chs) (k + 1)) (other cs + i) = if i = 0 then 0 else if i ≤ k then cl (news cs chs) i else cl cs (other cs + i) := by
  have ho := other_le cs
  intro k
  induction k with
  | zero =>
    intro _ i hi
    have e : (stepsOf cs chs)[0]? = some ((other cs : Int), 0) := rfl
    rw [wr_succ e]
    show cl ((wr cs (stepsOf cs chs) 0).set ((other cs : Int).toNat) 0) _ = _
    by_cases h : i = 0
    · subst h
      simp only [Int.toNat_natCast, Nat.add_zero, if_true]
      rw [cl_set_eq]
      rw [wr_len]; omega
    · rw [if_neg h, if_neg (by omega), cl_set_ne (by simp; omega)]
      rfl
  | succ k ih =>
    intro hk i hi
    have e : (stepsOf cs chs)[k + 1]? = some ((other cs : Int) + (1 + (k : Int)), cl (news cs chs) (k + 1)) := by
      unfold stepsOf
      rw [List.cons_append, List.getElem?_cons_succ, List.getElem?_append_left (by simp; omega)]
      simp [show k < 9 by omega]
    rw [wr_succ e]
    show cl ((wr cs (stepsOf cs chs) (k + 1)).set (((other cs : Int) + (1 + (k : Int))).toNat) (cl (news cs chs) (k + 1))) _ = _
    have et : ((other cs : Int) + (1 + (k : Int))).toNat = other cs + (k + 1) := by omega
    rw [et]
    by_cases h : i = k + 1
    · subst h
      rw [cl_set_eq (by rw [wr_len]; omega), if_neg (by omega), if_pos (by omega)]
    · rw [cl_set_ne (by omega), ih (by omega) i hi]
      by_cases h0 : i = 0
      · rw [if_pos h0, if_pos h0]
      · rw [if_neg h0, if_neg h0]
        by_cases h1 : i ≤ k
        · rw [if_pos h1, if_pos (by omega)]
        · rw [if_neg h1, if_neg (by omega)]
theorem wr_all {cs : List Int} {chs : List (Nat × Int)} (hl : cs.length = 20) {i : Nat} (hi : i < 10) : cl (wr cs (stepsOf cs chs) 11) (other cs + i) = if i = 0 then 1 else cl (news cs chs) i := by
  have ho := other_le cs
  have e : (stepsOf cs chs)[10]? = some ((other cs : Int), 1) := rfl
  rw [wr_succ e]
  show cl ((wr cs (stepsOf cs chs) 10).set ((other cs : Int).toNat) 1) _ = _
  simp only [Int.toNat_natCast]
  by_cases h : i = 0
  · subst h
    simp only [Nat.add_zero, if_true]
    rw [cl_set_eq]
    rw [wr_len]; omega
  · rw [if_neg h, cl_set_ne (by omega), wr_do hl 9 (by omega) i hi, if_neg h, if_pos (by omega)]
/-- changes are told of places from 2 on -/
def Chs (chs : List (Nat × Int)) : Prop := ∀ c ∈ chs, 2 ≤ c.1 ∧ c.1 < 10
theorem foldl_cl {chs : List (Nat × Int)} : ∀ {b : List Int} {i : Nat}, (∀ c ∈ chs, c.1 ≠ i) → cl (chs.foldl (fun b c => b.set c.1 c.2) b) i = cl b i := by
  induction chs with
  | nil => intros; rfl
  | cons c r ih =>
    intro b i h
    rw [List.foldl_cons, ih fun c hc => h c (List.mem_cons_of_mem _ hc), cl_set_ne (Ne.symm (h c List.mem_cons_self))]
theorem news_0 {cs : List Int} {chs : List (Nat × Int)} (hA : Any cs) (hc : Chs chs) : cl (news cs chs) 0 = 1 := by
  unfold news
  rw [foldl_cl (fun c h => by have := hc c h; omega), cl_set_ne (by omega), cl_bank (by omega)]
  exact stand_whole hA
theorem news_1 {cs : List Int} {chs : List (Nat × Int)} (hA : Any cs) (hc : Chs chs) : cl (news cs chs) 1 = cl (bank cs) 1 + 1 := by
  unfold news
  rw [foldl_cl (fun c h => by have := hc c h; omega), cl_set_eq (by rw [bank_len hA.1]; omega)]
/-- behind all eleven steps the other bank stands, with the news -/
theorem stand_wr {cs : List Int} {chs : List (Nat × Int)} (hA : Any cs) (hc : Chs chs) : stand (wr cs (stepsOf cs chs) 11) = 1 - stand cs := by
  have hw := stand_whole hA
  have w0 := wr_all (chs := chs) hA.1 (i := 0) (by omega)
  have w1 := wr_all (chs := chs) hA.1 (i := 1) (by omega)
  have s0 := wr_stand (cs := cs) (chs := chs) (k := 11) (i := 0) (by omega)
  have s1 := wr_stand (cs := cs) (chs := chs) (k := 11) (i := 1) (by omega)
  have n1 := news_1 hA hc
  rw [cl_bank (by omega)] at n1
  simp only [Nat.add_zero, if_true] at w0 s0
  rw [if_neg (by omega), n1] at w1
  rcases other_stand cs with ⟨a, b⟩ | ⟨a, b⟩ <;> simp only [a, b, Nat.zero_mul, Nat.one_mul, Nat.zero_add, Nat.reduceAdd, Nat.reduceSub] at w0 w1 s0 s1 hw ⊢
  · unfold stand
    rw [if_neg]
    intro z
    exact z.2 ⟨w0, by omega⟩
  · unfold stand
    rw [if_pos]
    exact ⟨w0, fun z => by omega⟩
theorem bank_wr {cs : List Int} {chs : List (Nat × Int)} (hA : Any cs) (hc : Chs chs) : bank (wr cs (stepsOf cs chs) 11) = news cs chs := by
  have hl : (wr cs (stepsOf cs chs) 11).length = 20 := by rw [wr_len]; exact hA.1
  refine ext_cl (by rw [bank_len hl, news_len hA.1]) fun i hi => ?_
  rw [bank_len hl] at hi
  rw [cl_bank hi, stand_wr hA hc]
  have : (1 - stand cs) * 10 = other cs := rfl
  rw [this, wr_all hA.1 hi]
  by_cases h : i = 0
  · rw [if_pos h, h, news_0 hA hc]
  · rw [if_neg h]
/-- cut off ahead of the last step, the bank that stood stands -/
theorem stand_wr_cut {cs : List Int} {chs : List (Nat × Int)} (hA : Any cs) {k : Nat} (hk : k < 11) : stand (wr cs (stepsOf cs chs) k) = stand cs := by
  cases k with
  | zero => rfl
  | succ k =>
    have hw := stand_whole hA
    have w0 := wr_do (chs := chs) hA.1 k (by omega) 0 (by omega)
    have s0 := wr_stand (cs := cs) (chs := chs) (k := k + 1) (i := 0) (by omega)
    simp only [Nat.add_zero, if_true] at w0 s0
    rcases other_stand cs with ⟨a, b⟩ | ⟨a, b⟩ <;> simp only [a, b, Nat.zero_mul, Nat.one_mul, Nat.zero_add, Nat.reduceAdd, Nat.reduceSub] at w0 s0 hw ⊢
    · unfold stand
      rw [if_pos ⟨s0.trans hw, fun z => by rw [w0] at z; exact absurd z.1 (by decide)⟩]
    · unfold stand
      rw [if_neg (fun z => by rw [w0] at z; exact absurd z.1 (by decide))]
theorem bank_wr_cut {cs : List Int} {chs : List (Nat × Int)} (hA : Any cs) {k : Nat} (hk : k < 11) : bank (wr cs (stepsOf cs chs) k) = bank cs := by
  have hl : (wr cs (stepsOf cs chs) k).length = 20 := by rw [wr_len]; exact hA.1
  refine ext_cl (by rw [bank_len hl, bank_len hA.1]) fun i hi => ?_
  rw [bank_len hl] at hi
  rw [cl_bank hi, cl_bank hi, stand_wr_cut hA hk, wr_stand hi]
end Fk
namespace Fk
open PySem PySem.Spec PyProof.Rows L2
local macro_rules | `(tactic| wtm_at "ln") => `(tactic| first
  | omega
  | (simp only [List.length_cons, List.length_nil, List.length_map, List.length_append, List.length_replicate, List.length_take, List.length_drop, List.length_set]; omega)
  | (with_unfolding_all exact (by decide)))
local macro_rules | `(tactic| wtm_at "ar") => `(tactic| first
  | ((with_reducible show CMulW _ _); (refine' mulS ?_ ?_ <;> omega))
  | ((with_reducible show CDivW _ _); (refine' divS ?_ ?_ <;> omega))
  | ((with_reducible show CPow _ _); exact ⟨by decide, by decide, by decide⟩)
  | (show (0 : Int) < _; omega)
  | (with_unfolding_all exact (by decide)))
local macro_rules | `(tactic| wtm_at "at") => `(tactic| first
  | assumption
  | (refine' cl_atE ?e80 ?h80; (case' e80 => first | exact rfl | assumption); (case' h80 => wtm_at "ln"))
  | exact rfl)
local macro_rules | `(tactic| wtm_at "fr") => `(tactic| first
  | assumption
  | ((with_reducible refine' Mx.free0 ?m99 ?h99); (case' h99 => assumption); (case' m99 => wtm_at "mo")))
local macro_rules | `(tactic| wtm_at "hp") => `(tactic| first
  | assumption
  | ((with_reducible refine' Mx.get0 ?m1 ?h1); (case' m1 => assumption); (case' h1 => wtm_at "hp"))
  | ((with_reducible refine' Mx.get ?m2 ?n2 ?h2); (case' m2 => assumption); (case' n2 => wtm_at "nin"); (case' h2 => wtm_at "hp")))
local macro_rules | `(tactic| wtm_at "sl") => `(tactic| first
  | assumption
  | ((with_reducible refine' Mx.sqL0 ?m96 ?h96); (case' h96 => assumption); (case' m96 => wtm_at "mo"))
  | (refine' SqL.of ?h3; (case' h3 => wtm_at "hp"))
  | ((with_reducible refine' Mx.sqL0 ?m4 ?h4); (case' m4 => assumption); (case' h4 => wtm_at "sl"))
  | ((with_reducible refine' Mx.sqL ?m5 ?n5 ?h5); (case' m5 => assumption); (case' n5 => wtm_at "nin"); (case' h5 => wtm_at "sl")))
local macro_rules | `(tactic| wtm_at "st") => `(tactic| first
  | assumption
  | ((with_reducible refine' Mx.sqT0 ?m97 ?h97); (case' h97 => assumption); (case' m97 => wtm_at "mo"))
  | (refine' SqT.of ?h6; (case' h6 => wtm_at "hp"))
  | ((with_reducible refine' Mx.sqT0 ?m7 ?h7); (case' m7 => assumption); (case' h7 => wtm_at "st"))
  | ((with_reducible refine' Mx.sqT ?m8 ?n8 ?h8); (case' m8 => assumption); (case' n8 => wtm_at "nin"); (case' h8 => wtm_at "st")))
local macro_rules | `(tactic| wtm_at "mx") => `(tactic| first
  | assumption
  | exact Mx.refl
  | ((with_reducible refine' Mx.of0 ?h9); (case' h9 => assumption))
  | ((with_reducible refine' Mx.trans ?h10 ?m10); (case' m10 => first | assumption | ((with_reducible refine' Mx.of0 ?q10); (case' q10 => assumption))); (case' h10 => wtm_at "mx")))
local macro_rules | `(tactic| wtm_at "mo") => `(tactic| first
  | wtm_at "mx"
  | ((with_reducible refine' Mx.own ?m90 ?f90 ?k90); (case' k90 => assumption); (case' f90 => wtm_at "fr"); (case' m90 => wtm_at "mo"))
  | ((with_reducible refine' Mx.trans ?h91 ?m91); (case' m91 => first | assumption | ((with_reducible refine' Mx.of0 ?q91); (case' q91 => assumption))); (case' h91 => wtm_at "mo")))
local macro_rules | `(tactic| wtm_at "ne") => `(tactic| first
  | assumption
  | exact Ne.symm (by assumption)
  | ((with_reducible refine' ne_of_none ?x94 ?y94); (case' y94 => assumption); (case' x94 => wtm_at "hp"))
  | ((with_reducible refine' Ne.symm (ne_of_none ?x95 ?y95)); (case' y95 => assumption); (case' x95 => wtm_at "hp")))
local macro_rules | `(tactic| wtm_at "nin") => `(tactic| first
  | assumption
  | exact List.not_mem_nil
  | ((with_reducible refine' List.not_mem_cons_of_ne_of_not_mem ?h98 ?t98); (case' h98 => wtm_at "ne"); (case' t98 => wtm_at "nin")))
local macro_rules | `(tactic| wtm_at "g1") => `(tactic| first
  | ((with_reducible refine' g_var ?h11 ?k11); (case' h11 => exact rfl))
  | with_reducible refine' g_c ?_
  | with_reducible refine' g_op ?_
  | with_reducible refine' g_I0 ?_
  | ((with_reducible refine' g_I ?c12 ?k12); (case' c12 => wtm_at "ar"))
  | with_reducible refine' g_cons ?_
  | with_reducible refine' g_nil ?_
  | with_reducible refine' g_seq ?_
  | with_reducible refine' g_asg ?_
  | with_reducible refine' g_name ?_
  | with_reducible refine' g_ret ?_
  | with_reducible refine' g_if ?_
  | with_reducible refine' g_test ?_
  | with_reducible refine' g_tB ?_
  | with_reducible refine' g_bl ?_
  | ((with_reducible refine' g_eq ?h13 ?k13); (case' h13 => exact rfl))
  | ((with_reducible refine' g_ne ?h14 ?k14); (case' h14 => exact rfl))
  | with_reducible refine' g_CB ?_
  | with_reducible refine' g_call ?_
  | with_reducible refine' g_drop ?_
  | with_reducible refine' g_next ?_
  | with_reducible refine' g_not ?_
  | with_reducible refine' g_and ?_
  | with_reducible refine' g_or ?_
  | with_reducible refine' g_un ?_
  | with_reducible refine' g_U ?_
  | with_reducible refine' g_tup ?_
  | with_reducible refine' g_lst ?_
  | ((with_reducible refine' g_kNew ?h15 ?k15); (case' h15 => wtm_at "ln"); (case' k15 => intro _ _ _ _ _))
  | ((with_reducible refine' g_ixL ?h16 ?a16 ?k16); (case' h16 => wtm_at "sl"); (case' a16 => wtm_at "at"))
  | ((with_reducible refine' g_ixT ?h17 ?a17 ?k17); (case' h17 => wtm_at "st"); (case' a17 => wtm_at "at"))
  | with_reducible refine' g_slice ?_
  | with_reducible refine' g_part ?_
  | with_reducible refine' g_kPart ?_
  | with_reducible refine' g_noPart ?_
  | ((with_reducible refine' g_slL ?h18 ?k18); (case' h18 => wtm_at "sl"); (case' k18 => intro _ _ _ _ _))
  | ((with_reducible refine' g_cat ?h119 ?h219 ?l19 ?k19); (case' h119 => wtm_at "hp"); (case' h219 => wtm_at "hp"); (case' l19 => wtm_at "ln"); (case' k19 => intro _ _ _ _ _))
  | ((with_reducible refine' g_rep ?h120 ?h220 ?h320 ?l20 ?k20); (case' h120 => wtm_at "hp"); (case' h220 => wtm_at "ln"); (case' h320 => wtm_at "ln"); (case' l20 => wtm_at "ln"); (case' k20 => intro _ _ _ _ _))
  | ((with_reducible refine' g_append ?h21 ?l21 ?k21); (case' h21 => wtm_at "hp"); (case' l21 => wtm_at "ln"); (case' k21 => intro _ _ _))
  | ((with_reducible refine' g_kBM ?h22 ?k22); (case' h22 => wtm_at "sl"))
  | ((with_reducible refine' g_kBM0 ?h23 ?k23); (case' h23 => wtm_at "sl"))
  | ((with_reducible refine' g_kL ?h24 ?k24); (case' h24 => wtm_at "sl"))
  | ((with_reducible refine' g_kR1 ?h125 ?h225 ?k25); (case' h125 => wtm_at "ln"); (case' h225 => wtm_at "ln"))
  | ((with_reducible refine' g_kR2 ?h126 ?h226 ?h326 ?h426 ?k26); (case' h126 => wtm_at "ln"); (case' h226 => wtm_at "ln"); (case' h326 => wtm_at "ln"); (case' h426 => wtm_at "ln"))
  | ((with_reducible refine' g_lenL ?h27 ?k27); (case' h27 => wtm_at "sl"))
  | ((with_reducible refine' g_lenT ?h28 ?k28); (case' h28 => wtm_at "st"))
  | ((with_reducible refine' g_listL ?h29 ?k29); (case' h29 => wtm_at "sl"); (case' k29 => intro _ _ _ _ _))
  | ((with_reducible refine' g_tupleL ?h30 ?k30); (case' h30 => wtm_at "sl"); (case' k30 => intro _ _ _ _ _))
  | with_reducible refine' g_max ?_
  | with_reducible refine' g_min ?_
  | with_reducible refine' g_intB ?_
  | with_reducible refine' g_fld ?_
  | with_reducible refine' g_put ?_
  | with_reducible refine' g_dget ?_
  | with_reducible refine' g_isN ?_
  | with_reducible refine' g_notN ?_
  | with_reducible refine' g_ifE ?_
  | with_reducible refine' g_andV ?_
  | with_reducible refine' g_orV ?_
  | with_reducible refine' g_notV ?_
  | with_reducible refine' g_kIf ?_
  | with_reducible refine' g_chain ?_
  | with_reducible refine' g_kCh ?_
  | with_reducible refine' g_sub ?_
  | ((with_reducible refine' g_setI ?h92 ?e92 ?j92 ?k92); (case' h92 => wtm_at "hp"); (case' e92 => first | exact rfl | assumption); (case' j92 => wtm_at "ln"); (case' k92 => intro _ _ _))
  | ((with_reducible refine' g_setL ?h89 ?i89 ?k89); (case' h89 => wtm_at "hp"); (case' i89 => exact ixE rfl (by wtm_at "ln")); (case' k89 => intro _ _ _))
  | ((with_reducible refine' g_gtup ?h93 ?e93 ?k93); (case' h93 => wtm_at "st"); (case' e93 => exact rfl))
  | with_reducible refine' g_gcons ?_
  | with_reducible refine' g_gnil ?_
  | with_reducible refine' g_par ?_
  | with_reducible refine' g_kPar ?_
  | with_reducible refine' g_meth ?_
  | with_reducible refine' g_bm ?_
  | with_reducible refine' g_bm0 ?_
  | with_reducible refine' g_raise ?_
  | with_reducible refine' g_for ?_
  | with_reducible refine' g_iR1 ?_
  | with_reducible refine' g_iR2 ?_
  | with_reducible refine' g_iL ?_
  | with_reducible refine' g_lc ?_
  | with_reducible refine' g_retN ?_
  | with_reducible refine' g_no (b := false) rfl ?_
  | with_reducible refine' g_yes (b := true) rfl ?_)
local macro_rules | `(tactic| wtm_at "go") => `(tactic| repeat (wtm_at "g1"))
local macro_rules | `(tactic| wtm_at "gs") => `(tactic| repeat ((fail_if_success (with_reducible refine' g_ifE ?_)); wtm_at "g1"))
local macro_rules | `(tactic| wtm_at "gi") => `(tactic| repeat ((fail_if_success (with_reducible refine' g_if ?_)); wtm_at "g1"))
local macro_rules | `(tactic| wtm_at "gr") => `(tactic| repeat ((fail_if_success (with_reducible refine' g_ret ?_)); wtm_at "g1"))
local macro_rules | `(tactic| wtm_at "gq") => `(tactic| repeat ((fail_if_success (with_reducible refine' g_asg ?_)); wtm_at "g1"))
/-! ### deeds -/
inductive Rf where
  | down | up | amount | code | short | bank | number | meter
  deriving DecidableEq
/-- the numbers of the bank that stands are of some size -/
def Sm (μ : Mt) : Prop := μ.num.natAbs < 2 ^ 200 ∧ μ.key.natAbs < 2 ^ 200 ∧ ∀ i, (bk μ i).natAbs < 2 ^ 200
def stampChs (μ : Mt) (a : Int) : List (Nat × Int) := [(2, bk μ 2 + a), (3, bk μ 3 - a), (8, bk μ 8 + 1), (9, a)]
def stampM (μ : Mt) (a : Int) (cut : Option Nat) : PyData × Mt :=
  match writeM μ (stampChs μ a) cut with
  | (none, μ1) => (.none, μ1)
  | (some left, μ1) => if (printM μ1 left).1 = true then (.int (bk μ 8 + 1), (printM μ1 left).2) else (.none, (printM μ1 left).2)
def stampR (μ : Mt) (a : Int) : Option Rf := if μ.up = false then some .down else if amt a = false then some .amount else if bk μ 3 < a then some .short else none
def topChs (μ : Mt) (z : Cd) : List (Nat × Int) := [(3, bk μ 3 + z.a), (4, bk μ 4 + z.a), (5, z.c)]
def topM (μ : Mt) (z : Cd) (cut : Option Nat) : PyData × Mt :=
  match writeM μ (topChs μ z) cut with
  | (none, μ1) => (.none, μ1)
  | (some _, μ1) => (.int z.a, μ1)
def topR (μ : Mt) (z : Cd) : Option Rf := if μ.up = false then some .down else if good μ.key z μ.num (bk μ 5 + 1) 1 = false then some .code else none
def backChs (μ : Mt) (a : Int) : List (Nat × Int) := [(3, bk μ 3 - a), (4, bk μ 4 - a), (6, bk μ 6 + 1), (7, a)]
def lastB (μ : Mt) : PyData := if 0 < bk μ 6 then cdD (mkCd μ.key μ.num (bk μ 6) (bk μ 7) 2) else .none
def backM (μ : Mt) (a : Int) (cut : Option Nat) : PyData × Mt :=
  match writeM μ (backChs μ a) cut with
  | (none, μ1) => (.none, μ1)
  | (some _, μ1) => (lastB μ1, μ1)
def upM (μ : Mt) (cut : Option Nat) : PyData × Mt := if (printM μ cut).1 = true then (.bool true, { (printM μ cut).2 with up := true }) else (.none, (printM μ cut).2)
theorem stampChs_ok (μ : Mt) (a : Int) : Chs (stampChs μ a) := by intro c hc; simp [stampChs] at hc; rcases hc with rfl | rfl | rfl | rfl <;> simp
theorem topChs_ok (μ : Mt) (z : Cd) : Chs (topChs μ z) := by intro c hc; simp [topChs] at hc; rcases hc with rfl | rfl | rfl <;> simp
theorem backChs_ok (μ : Mt) (a : Int) : Chs (backChs μ a) := by intro c hc; simp [backChs] at hc; rcases hc with rfl | rfl | rfl | rfl <;> simp
theorem writeM_any {μ : Mt} {chs : List (Nat × Int)} {cut : Option Nat} (h : Any μ.cells) : Any (writeM μ chs cut).2.cells := by
  unfold writeM
  split
  · split <;> exact any_wr h
  · exact any_wr h
theorem writeM_st {μ : Mt} {chs : List (Nat × Int)} {cut : Option Nat} : (writeM μ chs cut).2.stamps = μ.stamps := by
  unfold writeM
  split
  · split <;> rfl
  · rfl
theorem writeM_cases (μ : Mt) (chs : List (Nat × Int)) (cut : Option Nat) : (∃ k, cut = some k ∧ k < 11 ∧ writeM μ chs cut = (none, { μ with cells := wr μ.cells (stepsOf μ.cells chs) k, up := false })) ∨
    ((∀ k, cut = some k → 11 ≤ k) ∧ writeM μ chs cut = (some (cut.map fun k => k - 11), { μ with cells := wr μ.cells (stepsOf μ.cells chs) 11 })) := by
  cases cut with
  | none => exact .inr ⟨(fun _ h => nomatch h), rfl⟩
  | some k =>
    by_cases h : k < 11
    · exact .inl ⟨k, rfl, h, by simp only [writeM, if_pos h]⟩
    · exact .inr ⟨fun _ e => by cases e; omega, by simp only [writeM, if_neg h, Option.map_some]⟩
theorem bk_wr {μ : Mt} {chs : List (Nat × Int)} (hA : Any μ.cells) (hc : Chs chs) (i : Nat) : bk { μ with cells := wr μ.cells (stepsOf μ.cells chs) 11 } i = cl (news μ.cells chs) i := by
  unfold bk
  rw [bank_wr hA hc]
theorem scal_m1 : scal (V.int (-1)) (V.int (-1)) = true := rfl
section
variable {P : Program} {w : World} {K : PySem.W.Frag} {mg : Str → Option Value} {base : Heap}
def Rf.at (T : Tx K mg) : Rf → Addr
  | .down => T.E_Down
  | .up => T.E_Up
  | .amount => T.E_BadAmount
  | .code => T.E_BadCode
  | .short => T.E_Short
  | .bank => T.E_NoBank
  | .number => T.E_BadNumber
  | .meter => T.E_NoMeter
local macro_rules | `(tactic| wtm_at "g1") => `(tactic| first
  | ((with_reducible refine' g_fOwn (by assumption) ?h201 ?k201); (case' h201 => wtm_at "hp"))
  | ((with_reducible refine' g_fKey (by assumption) ?h202 ?k202); (case' h202 => wtm_at "hp"))
  | ((with_reducible refine' g_fMem (by assumption) ?h203 ?k203); (case' h203 => wtm_at "hp"))
  | ((with_reducible refine' g_fPri (by assumption) ?h204 ?k204); (case' h204 => wtm_at "hp"))
  | ((with_reducible refine' g_fAwa (by assumption) ?h205 ?k205); (case' h205 => wtm_at "hp"))
  | ((with_reducible refine' g_pAwa (by assumption) ?h206 ?k206); (case' h206 => wtm_at "hp"); (case' k206 => intro _ _ _))
  | ((with_reducible refine' g_kMeth ?h207 ?l207 ?k207); (case' h207 => wtm_at "hp"); (case' l207 => exact rfl)))

theorem g_neL {c : Option (Option Nat)} {H : Hp} {Q : VK} (k : Q (.bl (!decide (c = none))) H) : rNe (leftV c) (.int (-1)) H Q := by
  refine g_ne (scal_left c) ?_
  have : decide (leftV c = V.int (-1)) = decide (c = none) := by
    cases c with
    | none => rfl
    | some c => cases c with
      | none => rfl
      | some k =>
        simp [leftV, cutO]
  rw [this]
  exact k
end
end Fk
namespace Fk
open PySem PySem.Spec PyProof.Rows L2
local macro_rules | `(tactic| wtm_at "ln") => `(tactic| first
  | omega
  | (simp only [List.length_cons, List.length_nil, List.length_map, List.length_append, List.length_replicate, List.length_take, List.length_drop, List.length_set]; omega)
  | (with_unfolding_all exact (by decide)))
local macro_rules | `(tactic| wtm_at "ar") => `(tactic| first
  | ((with_reducible show CMulW _ _); (refine' mulS ?_ ?_ <;> omega))
  | ((with_reducible show CDivW _ _); (refine' divS ?_ ?_ <;> omega))
  | ((with_reducible show CPow _ _); exact ⟨by decide, by decide, by decide⟩)
  | (show (0 : Int) < _; omega)
  | (with_unfolding_all exact (by decide)))
local macro_rules | `(tactic| wtm_at "at") => `(tactic| first
  | assumption
  | (refine' cl_atE ?e80 ?h80; (case' e80 => first | exact rfl | assumption); (case' h80 => wtm_at "ln"))
  | exact rfl)
local macro_rules | `(tactic| wtm_at "fr") => `(tactic| first
  | assumption
  | ((with_reducible refine' Mx.free0 ?m99 ?h99); (case' h99 => assumption); (case' m99 => wtm_at "mo")))
local macro_rules | `(tactic| wtm_at "hp") => `(tactic| first
  | assumption
  | ((with_reducible refine' Mx.get0 ?m1 ?h1); (case' m1 => assumption); (case' h1 => wtm_at "hp"))
  | ((with_reducible refine' Mx.get ?m2 ?n2 ?h2); (case' m2 => assumption); (case' n2 => wtm_at "nin"); (case' h2 => wtm_at "hp")))
local macro_rules | `(tactic| wtm_at "sl") => `(tactic| first
  | assumption
  | ((with_reducible refine' Mx.sqL0 ?m96 ?h96); (case' h96 => assumption); (case' m96 => wtm_at "mo"))
  | (refine' SqL.of ?h3; (case' h3 => wtm_at "hp"))
  | ((with_reducible refine' Mx.sqL0 ?m4 ?h4); (case' m4 => assumption); (case' h4 => wtm_at "sl"))
  | ((with_reducible refine' Mx.sqL ?m5 ?n5 ?h5); (case' m5 => assumption); (case' n5 => wtm_at "nin"); (case' h5 => wtm_at "sl")))
local macro_rules | `(tactic| wtm_at "st") => `(tactic| first
  | assumption
  | ((with_reducible refine' Mx.sqT0 ?m97 ?h97); (case' h97 => assumption); (case' m97 => wtm_at "mo"))
  | (refine' SqT.of ?h6; (case' h6 => wtm_at "hp"))
  | ((with_reducible refine' Mx.sqT0 ?m7 ?h7); (case' m7 => assumption); (case' h7 => wtm_at "st"))
  | ((with_reducible refine' Mx.sqT ?m8 ?n8 ?h8); (case' m8 => assumption); (case' n8 => wtm_at "nin"); (case' h8 => wtm_at "st")))
local macro_rules | `(tactic| wtm_at "mx") => `(tactic| first
  | assumption
  | exact Mx.refl
  | ((with_reducible refine' Mx.of0 ?h9); (case' h9 => assumption))
  | ((with_reducible refine' Mx.trans ?h10 ?m10); (case' m10 => first | assumption | ((with_reducible refine' Mx.of0 ?q10); (case' q10 => assumption))); (case' h10 => wtm_at "mx")))
local macro_rules | `(tactic| wtm_at "mo") => `(tactic| first
  | wtm_at "mx"
  | ((with_reducible refine' Mx.own ?m90 ?f90 ?k90); (case' k90 => assumption); (case' f90 => wtm_at "fr"); (case' m90 => wtm_at "mo"))
  | ((with_reducible refine' Mx.trans ?h91 ?m91); (case' m91 => first | assumption | ((with_reducible refine' Mx.of0 ?q91); (case' q91 => assumption))); (case' h91 => wtm_at "mo")))
local macro_rules | `(tactic| wtm_at "ne") => `(tactic| first
  | assumption
  | exact Ne.symm (by assumption)
  | ((with_reducible refine' ne_of_none ?x94 ?y94); (case' y94 => assumption); (case' x94 => wtm_at "hp"))
  | ((with_reducible refine' Ne.symm (ne_of_none ?x95 ?y95)); (case' y95 => assumption); (case' x95 => wtm_at "hp")))
local macro_rules | `(tactic| wtm_at "nin") => `(tactic| first
  | assumption
  | exact List.not_mem_nil
  | ((with_reducible refine' List.not_mem_cons_of_ne_of_not_mem ?h98 ?t98); (case' h98 => wtm_at "ne"); (case' t98 => wtm_at "nin")))
local macro_rules | `(tactic| wtm_at "g1") => `(tactic| first
  | ((with_reducible refine' g_var ?h11 ?k11); (case' h11 => exact rfl))
  | with_reducible refine' g_c ?_
  | with_reducible refine' g_op ?_
  | with_reducible refine' g_I0 ?_
  | ((with_reducible refine' g_I ?c12 ?k12); (case' c12 => wtm_at "ar"))
  | with_reducible refine' g_cons ?_
  | with_reducible refine' g_nil ?_
  | with_reducible refine' g_seq ?_
  | with_reducible refine' g_asg ?_
  | with_reducible refine' g_name ?_
  | with_reducible refine' g_ret ?_
  | with_reducible refine' g_if ?_
  | with_reducible refine' g_test ?_
  | with_reducible refine' g_tB ?_
  | with_reducible refine' g_bl ?_
  | ((with_reducible refine' g_eq ?h13 ?k13); (case' h13 => exact rfl))
  | ((with_reducible refine' g_ne ?h14 ?k14); (case' h14 => exact rfl))
  | with_reducible refine' g_CB ?_
  | with_reducible refine' g_call ?_
  | with_reducible refine' g_drop ?_
  | with_reducible refine' g_next ?_
  | with_reducible refine' g_not ?_
  | with_reducible refine' g_and ?_
  | with_reducible refine' g_or ?_
  | with_reducible refine' g_un ?_
  | with_reducible refine' g_U ?_
  | with_reducible refine' g_tup ?_
  | with_reducible refine' g_lst ?_
  | ((with_reducible refine' g_kNew ?h15 ?k15); (case' h15 => wtm_at "ln"); (case' k15 => intro _ _ _ _ _))
  | ((with_reducible refine' g_ixL ?h16 ?a16 ?k16); (case' h16 => wtm_at "sl"); (case' a16 => wtm_at "at"))
  | ((with_reducible refine' g_ixT ?h17 ?a17 ?k17); (case' h17 => wtm_at "st"); (case' a17 => wtm_at "at"))
  | with_reducible refine' g_slice ?_
  | with_reducible refine' g_part ?_
  | with_reducible refine' g_kPart ?_
  | with_reducible refine' g_noPart ?_
  | ((with_reducible refine' g_slL ?h18 ?k18); (case' h18 => wtm_at "sl"); (case' k18 => intro _ _ _ _ _))
  | ((with_reducible refine' g_cat ?h119 ?h219 ?l19 ?k19); (case' h119 => wtm_at "hp"); (case' h219 => wtm_at "hp"); (case' l19 => wtm_at "ln"); (case' k19 => intro _ _ _ _ _))
  | ((with_reducible refine' g_rep ?h120 ?h220 ?h320 ?l20 ?k20); (case' h120 => wtm_at "hp"); (case' h220 => wtm_at "ln"); (case' h320 => wtm_at "ln"); (case' l20 => wtm_at "ln"); (case' k20 => intro _ _ _ _ _))
  | ((with_reducible refine' g_append ?h21 ?l21 ?k21); (case' h21 => wtm_at "hp"); (case' l21 => wtm_at "ln"); (case' k21 => intro _ _ _))
  | ((with_reducible refine' g_kBM ?h22 ?k22); (case' h22 => wtm_at "sl"))
  | ((with_reducible refine' g_kBM0 ?h23 ?k23); (case' h23 => wtm_at "sl"))
  | ((with_reducible refine' g_kL ?h24 ?k24); (case' h24 => wtm_at "sl"))
  | ((with_reducible refine' g_kR1 ?h125 ?h225 ?k25); (case' h125 => wtm_at "ln"); (case' h225 => wtm_at "ln"))
  | ((with_reducible refine' g_kR2 ?h126 ?h226 ?h326 ?h426 ?k26); (case' h126 => wtm_at "ln"); (case' h226 => wtm_at "ln"); (case' h326 => wtm_at "ln"); (case' h426 => wtm_at "ln"))
  | ((with_reducible refine' g_lenL ?h27 ?k27); (case' h27 => wtm_at "sl"))
  | ((with_reducible refine' g_lenT ?h28 ?k28); (case' h28 => wtm_at "st"))
  | ((with_reducible refine' g_listL ?h29 ?k29); (case' h29 => wtm_at "sl"); (case' k29 => intro _ _ _ _ _))
  | ((with_reducible refine' g_tupleL ?h30 ?k30); (case' h30 => wtm_at "sl"); (case' k30 => intro _ _ _ _ _))
  | with_reducible refine' g_max ?_
  | with_reducible refine' g_min ?_
  | with_reducible refine' g_intB ?_
  | with_reducible refine' g_fld ?_
  | with_reducible refine' g_put ?_
  | with_reducible refine' g_dget ?_
  | with_reducible refine' g_isN ?_
  | with_reducible refine' g_notN ?_
  | with_reducible refine' g_ifE ?_
  | with_reducible refine' g_andV ?_
  | with_reducible refine' g_orV ?_
  | with_reducible refine' g_notV ?_
  | with_reducible refine' g_kIf ?_
  | with_reducible refine' g_chain ?_
  | with_reducible refine' g_kCh ?_
  | with_reducible refine' g_sub ?_
  | ((with_reducible refine' g_setI ?h92 ?e92 ?j92 ?k92); (case' h92 => wtm_at "hp"); (case' e92 => first | exact rfl | assumption); (case' j92 => wtm_at "ln"); (case' k92 => intro _ _ _))
  | ((with_reducible refine' g_setL ?h89 ?i89 ?k89); (case' h89 => wtm_at "hp"); (case' i89 => exact ixE rfl (by wtm_at "ln")); (case' k89 => intro _ _ _))
  | ((with_reducible refine' g_gtup ?h93 ?e93 ?k93); (case' h93 => wtm_at "st"); (case' e93 => exact rfl))
  | with_reducible refine' g_gcons ?_
  | with_reducible refine' g_gnil ?_
  | with_reducible refine' g_par ?_
  | with_reducible refine' g_kPar ?_
  | with_reducible refine' g_meth ?_
  | with_reducible refine' g_bm ?_
  | with_reducible refine' g_bm0 ?_
  | with_reducible refine' g_raise ?_
  | with_reducible refine' g_for ?_
  | with_reducible refine' g_iR1 ?_
  | with_reducible refine' g_iR2 ?_
  | with_reducible refine' g_iL ?_
  | with_reducible refine' g_lc ?_
  | with_reducible refine' g_retN ?_
  | with_reducible refine' g_no (b := false) rfl ?_
  | with_reducible refine' g_yes (b := true) rfl ?_)
local macro_rules | `(tactic| wtm_at "go") => `(tactic| repeat (wtm_at "g1"))
local macro_rules | `(tactic| wtm_at "gs") => `(tactic| repeat ((fail_if_success (with_reducible refine' g_ifE ?_)); wtm_at "g1"))
local macro_rules | `(tactic| wtm_at "gi") => `(tactic| repeat ((fail_if_success (with_reducible refine' g_if ?_)); wtm_at "g1"))
local macro_rules | `(tactic| wtm_at "gr") => `(tactic| repeat ((fail_if_success (with_reducible refine' g_ret ?_)); wtm_at "g1"))
local macro_rules | `(tactic| wtm_at "gq") => `(tactic| repeat ((fail_if_success (with_reducible refine' g_asg ?_)); wtm_at "g1"))
/-! ### the law's own: drawing, codes, what a meter is -/
/-- where drawing stands: the list at r; H0: the heap at the law's entry, which stays -/
structure StAt (K : PySem.W.Frag) (H0 H : Hp) (r : Addr) : Prop where
  ex : ∃ (a : Addr) (ns : List Int) (i m l : Int), H r = some (.lst [.ref a, .int i, .int m, .int l]) ∧ SqL K H0 a (ns.map V.int) ∧ ns.length ≤ 63 ∧ 0 ≤ i ∧ 0 ≤ m ∧ m < 2147483647 ∧ 0 ≤ l
  fr : H0 r = none
  mx : Mx [] H0 H
theorem mx_fresh {S : List Addr} {H0 H H' : Hp} (m0 : Mx [] H0 H) (m : Mx S H H') (f : ∀ x ∈ S, H0 x = none) : Mx [] H0 H' := fun a o e _ =>
  m a o (m0.get0 e) fun z => by have := f a z; rw [e] at this; cases this
theorem StAt.mv {K : PySem.W.Frag} {S : List Addr} {H0 H H' : Hp} {r : Addr} (s : StAt K H0 H r) (m : Mx S H H') (f : ∀ x ∈ S, H0 x = none) (n : r ∉ S) : StAt K H0 H' r := by
  obtain ⟨⟨a, ns, i, mm, l, h, q⟩, fr, mx⟩ := s
  exact ⟨⟨a, ns, i, mm, l, m _ _ h n, q⟩, fr, mx_fresh mx m f⟩
theorem StAt.mx0 {K : PySem.W.Frag} {H0 H H' : Hp} {r : Addr} (s : StAt K H0 H r) (m : Mx [] H H') : StAt K H0 H' r := s.mv m (fun _ h => by simp at h) (by simp)
/-- the dict that tells what a meter is -/
def lmKvs (μ : Mt) (qc qs : Addr) : List (Key × V) := [(Sum.inr "number", .int μ.num), (Sum.inr "key", .int μ.key), (Sum.inr "cells", .ref qc), (Sum.inr "stamps", .ref qs), (Sum.inr "up", .bl μ.up)]
structure LmAt (K : PySem.W.Frag) (H : Hp) (q qc qs : Addr) (μ : Mt) : Prop where
  ob : H q = some (.dK (lmKvs μ qc qs))
  ce : H qc = some (.lst (μ.cells.map V.int))
  st : ∃ vs, H qs = some (.lst vs) ∧ DpAll K H vs (μ.stamps.map stD)
  ne : qc ≠ qs
theorem LmAt.mx {K : PySem.W.Frag} {S : List Addr} {H H' : Hp} {q qc qs : Addr} {μ : Mt} (M : LmAt K H q qc qs μ) (m : Mx S H H') (n : NoTup H S) (h1 : q ∉ S) (h2 : qc ∉ S) (h3 : qs ∉ S) : LmAt K H' q qc qs μ := by
  obtain ⟨ob, ce, ⟨vs, st, dp⟩, ne⟩ := M
  exact ⟨m _ _ ob h1, m _ _ ce h2, ⟨vs, m _ _ st h3, m.sts n dp⟩, ne⟩
theorem LmAt.mx0 {K : PySem.W.Frag} {H H' : Hp} {q qc qs : Addr} {μ : Mt} (M : LmAt K H q qc qs μ) (m : Mx [] H H') : LmAt K H' q qc qs μ := M.mx m noTup0 (by simp) (by simp) (by simp)
theorem LmAt.q_qc {K : PySem.W.Frag} {H : Hp} {q qc qs : Addr} {μ : Mt} (M : LmAt K H q qc qs μ) : q ≠ qc := ne_of M.ob M.ce fun z => nomatch z
theorem LmAt.q_qs {K : PySem.W.Frag} {H : Hp} {q qc qs : Addr} {μ : Mt} (M : LmAt K H q qc qs μ) : q ≠ qs := by
  obtain ⟨vs, st, _⟩ := M.st
  exact ne_of M.ob st fun z => nomatch z
theorem noTupD {H : Hp} {l : Addr} {xs : List (Key × V)} (h : H l = some (.dK xs)) : NoTup H [l] := fun x hx u e => by
  simp at hx; subst hx; rw [h] at e; cases e; exact ⟨(fun _ z => nomatch z), (fun _ _ z => nomatch z)⟩
theorem NoTup.cons {H : Hp} {x : Addr} {S : List Addr} (h : NoTup H [x]) (t : NoTup H S) : NoTup H (x :: S) := fun y hy u e => by
  rcases List.mem_cons.mp hy with rfl | hy
  · exact h _ (by simp) u e
  · exact t y hy u e
section
variable {P : Program} {w : World} {K : PySem.W.Frag} {mg : Str → Option Value} {base : Heap}
section
variable {D : Ends} {σ : L2.St} {H : Hp} {Q : VK} {x v y : V}
def kDPut (v : V) (x : V) (N : Hp → Prop) : VK := fun y H3 => ∃ a H4, x = .ref a ∧ DPut H3 a y v H4 ∧ N H4
theorem g_dput {td ty tv : TE} (k : tv σ H fun v H1 => td σ H1 fun x H2 => ty σ H2 (kDPut v x fun H4 => D.nx σ H4)) : sDPut td ty tv D σ H := k
theorem g_kDPutS {a : Addr} {z : Str} {kvs kvs' : List (Key × V)} {N : Hp → Prop} (h : H a = some (.dK kvs)) (e : putK kvs (Sum.inr z) v = kvs') (hl : kvs.length ≤ 100) (k : ∀ H', Mx [a] H H' → H' a = some (.dK kvs') → N H') : kDPut v (.ref a) N (.str z) H :=
  ⟨a, _, rfl, DPut.k (k := Sum.inr z) h (lineL (by omega)), k _ (.put (by simp)) (by rw [upd_same, e])⟩
theorem g_dNum {q qc qs : Addr} {μ : Mt} (h : H q = some (.dK (lmKvs μ qc qs))) (k : Q (.int μ.num) H) : kDGet (.ref q) Q (.str "number") H := g_kDGetS h rfl k
theorem g_dKey {q qc qs : Addr} {μ : Mt} (h : H q = some (.dK (lmKvs μ qc qs))) (k : Q (.int μ.key) H) : kDGet (.ref q) Q (.str "key") H := g_kDGetS h rfl k
theorem g_dCe {q qc qs : Addr} {μ : Mt} (h : H q = some (.dK (lmKvs μ qc qs))) (k : Q (.ref qc) H) : kDGet (.ref q) Q (.str "cells") H := g_kDGetS h rfl k
theorem g_dSt {q qc qs : Addr} {μ : Mt} (h : H q = some (.dK (lmKvs μ qc qs))) (k : Q (.ref qs) H) : kDGet (.ref q) Q (.str "stamps") H := g_kDGetS h rfl k
theorem g_dUp {q qc qs : Addr} {μ : Mt} (h : H q = some (.dK (lmKvs μ qc qs))) (k : Q (.bl μ.up) H) : kDGet (.ref q) Q (.str "up") H := g_kDGetS h rfl k
/-- a dict displayed -/
def vkey : V → Key
  | .str s => Sum.inr s
  | .int i => Sum.inl i
  | _ => Sum.inl 0
def kDisp (p : Addr) (Q : VK) : List (V × V) → Hp → Prop := fun ps H2 => H2 p = some (.dK []) ∧ ∃ kvs : List (Key × V), ps = kvs.map (fun kv => (kV kv.1, kv.2)) ∧ kvs.length ≤ 15 ∧ Q (.ref p) (upd H2 p (.dK (mergeK [] kvs)))
theorem g_disp {trs : List (TE × TE)} (k : ∀ p H', H p = none → Mx [] H H' → H' p = some (.dK []) → tPairs trs σ H' (kDisp p Q)) : tDisp trs σ H Q := fun p hp => k p _ hp (.new hp) upd_same
theorem g_pnil {QP : List (V × V) → Hp → Prop} (k : QP [] H) : tPairs [] σ H QP := k
theorem g_pcons {tk tv : TE} {r : List (TE × TE)} {QP : List (V × V) → Hp → Prop} (k : tk σ H fun x H1 => tv σ H1 fun y H2 => tPairs r σ H2 fun ps H3 => QP ((x, y) :: ps) H3) : tPairs ((tk, tv) :: r) σ H QP := k
theorem g_kDisp {p : Addr} {ps : List (V × V)} {kvs : List (Key × V)} (h : H p = some (.dK [])) (e : (ps.map fun z => (vkey z.1, z.2)).map (fun kv => (kV kv.1, kv.2)) = ps) (f : mergeK [] (ps.map fun z => (vkey z.1, z.2)) = kvs) (l : ps.length ≤ 15)
    (k : ∀ H', Mx [p] H H' → H' p = some (.dK kvs) → Q (.ref p) H') : kDisp p Q ps H :=
  ⟨h, ps.map fun z => (vkey z.1, z.2), e.symm, by rw [List.length_map]; exact l, k _ (.put (by simp)) (by rw [upd_same, f])⟩
theorem g_pUp {a qc qs : Addr} {μ : Mt} {b : Bool} {N : Hp → Prop} (h : H a = some (.dK (lmKvs μ qc qs))) (k : ∀ H', Mx [a] H H' → H' a = some (.dK (lmKvs { μ with up := b } qc qs)) → N H') : kDPut (.bl b) (.ref a) N (.str "up") H :=
  g_kDPutS h rfl (by show 5 ≤ 100; decide) k
theorem g_pSt {a qc qs l : Addr} {μ : Mt} {N : Hp → Prop} (h : H a = some (.dK (lmKvs μ qc qs))) (k : ∀ H', Mx [a] H H' → H' a = some (.dK (lmKvs μ qc l)) → N H') : kDPut (.ref l) (.ref a) N (.str "stamps") H :=
  g_kDPutS h rfl (by show 5 ≤ 100; decide) k
theorem g_pCe {a qc qs l : Addr} {μ : Mt} {N : Hp → Prop} (h : H a = some (.dK (lmKvs μ qc qs))) (k : ∀ H', Mx [a] H H' → H' a = some (.dK (lmKvs μ l qs)) → N H') : kDPut (.ref l) (.ref a) N (.str "cells") H :=
  g_kDPutS h rfl (by show 5 ≤ 100; decide) k
end
local macro_rules | `(tactic| wtm_at "g1") => `(tactic| first
  | ((with_reducible refine' g_fOwn (by assumption) ?h201 ?k201); (case' h201 => wtm_at "hp"))
  | ((with_reducible refine' g_fKey (by assumption) ?h202 ?k202); (case' h202 => wtm_at "hp"))
  | ((with_reducible refine' g_fMem (by assumption) ?h203 ?k203); (case' h203 => wtm_at "hp"))
  | ((with_reducible refine' g_fPri (by assumption) ?h204 ?k204); (case' h204 => wtm_at "hp"))
  | ((with_reducible refine' g_fAwa (by assumption) ?h205 ?k205); (case' h205 => wtm_at "hp"))
  | ((with_reducible refine' g_pAwa (by assumption) ?h206 ?k206); (case' h206 => wtm_at "hp"); (case' k206 => intro _ _ _))
  | ((with_reducible refine' g_kMeth ?h207 ?l207 ?k207); (case' h207 => wtm_at "hp"); (case' l207 => exact rfl)))

local macro_rules | `(tactic| wtm_at "g1") => `(tactic| first
  | ((with_reducible refine' g_dNum ?h311 ?k311); (case' h311 => wtm_at "hp"))
  | ((with_reducible refine' g_dKey ?h312 ?k312); (case' h312 => wtm_at "hp"))
  | ((with_reducible refine' g_dCe ?h313 ?k313); (case' h313 => wtm_at "hp"))
  | ((with_reducible refine' g_dSt ?h314 ?k314); (case' h314 => wtm_at "hp"))
  | ((with_reducible refine' g_dUp ?h315 ?k315); (case' h315 => wtm_at "hp"))
  | ((with_reducible refine' g_kDGetS ?h301 ?l301 ?k301); (case' h301 => wtm_at "hp"); (case' l301 => exact rfl))
  | (with_reducible refine' g_dput ?_)
  | (with_reducible refine' g_iK ?_)
  | ((with_reducible refine' g_disp ?k305); (case' k305 => intro _ _ _ _ _))
  | (with_reducible refine' g_pcons ?_)
  | (with_reducible refine' g_pnil ?_)
  | ((with_reducible refine' g_kDisp ?h306 ?e306 ?f306 ?l306 ?k306); (case' h306 => wtm_at "hp"); (case' e306 => exact rfl); (case' f306 => exact rfl); (case' l306 => wtm_at "ln"); (case' k306 => intro _ _ _))
  | ((with_reducible refine' g_pUp ?h302 ?k302); (case' h302 => wtm_at "hp"); (case' k302 => intro _ _ _))
  | ((with_reducible refine' g_pSt ?h303 ?k303); (case' h303 => wtm_at "hp"); (case' k303 => intro _ _ _))
  | ((with_reducible refine' g_pCe ?h304 ?k304); (case' h304 => wtm_at "hp"); (case' k304 => intro _ _ _)))

def spStart : Sp := fun vs H Q _ => ∃ (a : Addr) (ns : List Int), vs = [.ref a] ∧ SqL K H a (ns.map V.int) ∧ ns.length ≤ 63 ∧ ∀ r H', H r = none → Mx [] H H' → StAt K H H' r → Q (.ref r) H'
theorem c__law_start (T : Tx K mg) : Cl P w K mg base 1 "_law_start" (spStart (K := K)) [] := by
  refine T.f__law_start.cl sc__law_start (fun vs H Q E h => ?_) (fun cdv A outer s H vs Q E hr h => ?_)
  · obtain ⟨_, _, rfl, _⟩ := h
    rfl
  · obtain ⟨a, ns, rfl, hS, hl, q⟩ := h
    refine ⟨_, (pss_cons (ps_set (i := 1) sc__law_start.nd rfl (Or.inl rfl) pe_int)
      (pss_cons (ps_for (passes_of rfl) rfl (piL K (pv 0)) (pg_name (i := 2) sc__law_start.nd rfl (Or.inl rfl))
      (pss_one (ps_set (i := 1) sc__law_start.nd rfl (Or.inl rfl) (pe_op op_mod (pe_op op_add (pe_op op_add (pe_op op_mulW (pv 1) pe_int) (pv 2)) pe_int) pe_int))))
      (pss_one (ps_ret (pe_lst (pa_cons (pv 0) (pa_cons pe_int (pa_cons (pv 1) (pa_cons pe_int pa_nil))))))))), ?_⟩
    wtm_at "go"
    refine g_forL (xs := ns.map V.int) (fun i σ' H' => ∃ (m : Int) (x : Option V), σ' = [some (.ref a), some (.int m), x] ∧ 0 ≤ m ∧ m < 2147483647 ∧ H' = H)
      ⟨1, none, rfl, by omega, by omega, rfl⟩ (fun i σ' H' _ hP => ?_) (fun i x σ' H' hx hP => ?_) (fun σ' H' hP => ?_)
    · obtain ⟨_, _, _, _, _, rfl⟩ := hP
      exact hS
    · obtain ⟨m, x0, rfl, h0, h1, rfl⟩ := hP
      rw [List.getElem?_map, Option.map_eq_some_iff] at hx
      obtain ⟨c, hc, rfl⟩ := hx
      wtm_at "go"
      exact ⟨_, _, rfl, Int.emod_nonneg _ (by omega), Int.emod_lt_of_pos _ (by omega), rfl⟩
    · obtain ⟨m, x0, rfl, h0, h1, rfl⟩ := hP
      wtm_at "go"
      rename_i r H1 n1 m1 e1
      exact q r H1 n1 m1 ⟨⟨a, ns, 0, m, 0, e1, hS, hl, by omega, h0, h1, by omega⟩, n1, m1⟩
def spDrawn : Sp := fun vs H Q _ => ∃ (H0 : Hp) (r : Addr) (n : Int), vs = [.ref r, .int n] ∧ StAt K H0 H r ∧ 0 < n ∧ n < 2 ^ 300 ∧ ∀ x H', 0 ≤ x → x < n → Mx [r] H H' → StAt K H0 H' r → Q (.int x) H'
theorem c__law_drawn (T : Tx K mg) : Cl P w K mg base 1 "_law_drawn" (spDrawn (K := K)) [] := by
  refine T.f__law_drawn.cl sc__law_drawn (fun vs H Q E h => ?_) (fun cdv A outer s H vs Q E hr h => ?_)
  · obtain ⟨_, _, _, rfl, _⟩ := h
    rfl
  · obtain ⟨H0, r, n, rfl, ⟨⟨a, ns, i, m, l, e0, hS, hl, hi, hm0, hm1, hl0⟩, f0, m0⟩, hn0, hn1, q⟩ := h
    refine ⟨_, (pss_cons (ps_if (pt_cmpR op_gt (pe_ix (ixL K) (pv 0) pe_int (fun _ _ => rfl)) pe_int (by first | exact nomark _ | rfl)) (pss_cons (ps_set (i := 2) sc__law_drawn.nd rfl (Or.inl rfl) (pe_op op_mod (pe_ix (ixL K) (pv 0) pe_int (fun _ _ => rfl)) (pv 1)))
      (pss_cons (ps_asg (pe_op op_fdivW (pe_ix (ixL K) (pv 0) pe_int (fun _ _ => rfl)) (pv 1)) (pg_sub (pv 0) pe_int set_list))
      (pss_one (ps_ret (pv 2))))) pss_nil)
      (pss_cons (ps_asg (pe_op op_add (pe_ix (ixL K) (pv 0) pe_int (fun _ _ => rfl)) pe_int) (pg_sub (pv 0) pe_int set_list))
      (pss_cons (ps_if (pt_cmpR op_le (pe_ix (ixL K) (pv 0) pe_int (fun _ _ => rfl)) (pe_callB (cLen K) (by rfl) T.n_len (by decide +kernel) (pa_cons (pe_ix (ixL K) (pv 0) pe_int (fun _ _ => rfl)) pa_nil)) (by first | exact nomark _ | rfl)) (pss_cons (ps_set (i := 3) sc__law_drawn.nd rfl (Or.inl rfl) (pe_ix (ixL K) (pe_ix (ixL K) (pv 0) pe_int (fun _ _ => rfl)) (pe_op op_sub (pe_ix (ixL K) (pv 0) pe_int (fun _ _ => rfl)) pe_int) (fun _ _ => rfl)))
      (pss_cons (ps_asg (pe_ifExp (pt_cmpR op_ge (pv 3) (pe_op op_pow pe_int pe_int) (by first | exact nomark _ | rfl)) (pe_op op_fdivW (pv 3) (pv 1)) pe_int) (pg_sub (pv 0) pe_int set_list))
      (pss_one (ps_ret (pe_op op_mod (pv 3) (pv 1)))))) pss_nil)
      (pss_cons (ps_asg (pe_op op_mod (pe_op op_add (pe_op op_mulW (pe_ix (ixL K) (pv 0) pe_int (fun _ _ => rfl)) pe_int) pe_int) pe_int) (pg_sub (pv 0) pe_int set_list))
      (pss_one (ps_ret (pe_op op_mod (pe_op op_fdivW (pe_ix (ixL K) (pv 0) pe_int (fun _ _ => rfl)) pe_int) (pv 1)))))))), ?_⟩
    wtm_at "go"
    refine g_ite (fun e => ?_) (fun e => ?_)
    · wtm_at "go"
      rename_i H1 m1 e1
      exact q _ _ (Int.emod_nonneg _ (by omega)) (Int.emod_lt_of_pos _ (by omega)) m1 ⟨⟨a, ns, i, m, l / n, e1, hS, hl, hi, hm0, hm1, Int.ediv_nonneg hl0 (by omega)⟩, f0, by wtm_at "mo"⟩
    · wtm_at "go"
      rename_i H1 m1 e1
      refine g_ite (fun e2 => ?_) (fun e2 => ?_)
      · have e3 : i + 1 ≤ (ns.length : Int) := by simpa using e2
        have e4 : i + 1 - 1 = ((i.toNat : Nat) : Int) := by omega
        have e5 : i.toNat < ns.length := by omega
        wtm_at "go"
        refine g_ite (fun e6 => ?_) (fun e6 => ?_)
        · wtm_at "go"
          rename_i H2 m2 e7
          have h6 : 0 ≤ cl ns i.toNat := by
            have : (10 : Int) ^ (18 : Int).toNat ≤ cl ns i.toNat := by simpa using e6
            have h18 : (0 : Int) ≤ 10 ^ (18 : Int).toNat := by decide
            omega
          exact q _ _ (Int.emod_nonneg _ (by omega)) (Int.emod_lt_of_pos _ (by omega)) (m1.trans m2) ⟨⟨a, ns, i + 1, m, cl ns i.toNat / n, e7, hS, hl, by omega, hm0, hm1, Int.ediv_nonneg h6 (by omega)⟩, f0, by wtm_at "mo"⟩
        · wtm_at "go"
          rename_i H2 m2 e7
          exact q _ _ (Int.emod_nonneg _ (by omega)) (Int.emod_lt_of_pos _ (by omega)) (m1.trans m2) ⟨⟨a, ns, i + 1, m, 0, e7, hS, hl, by omega, hm0, hm1, by omega⟩, f0, by wtm_at "mo"⟩
      · wtm_at "go"
        rename_i H2 m2 e7
        exact q _ _ (Int.emod_nonneg _ (by omega)) (Int.emod_lt_of_pos _ (by omega)) (m1.trans m2) ⟨⟨a, ns, i + 1, _, l, e7, hS, hl, by omega, Int.emod_nonneg _ (by omega), Int.emod_lt_of_pos _ (by omega), hl0⟩, f0, by wtm_at "mo"⟩
/-- an amount -/
def spAmount : Sp := fun vs H Q _ => ∃ (H0 : Hp) (r : Addr), vs = [.ref r] ∧ StAt K H0 H r ∧ ∀ x H', 1 ≤ x → x ≤ 99999 → Mx [r] H H' → StAt K H0 H' r → Q (.int x) H'
theorem c__law_amount (T : Tx K mg) : Cl P w K mg base 2 "_law_amount" (spAmount (K := K)) [] := by
  refine T.f__law_amount.cl sc__law_amount (fun vs H Q E h => ?_) (fun cdv A outer s H vs Q E hr h => ?_)
  · obtain ⟨_, _, rfl, _⟩ := h
    rfl
  · obtain ⟨H0, r, rfl, S, q⟩ := h
    refine ⟨_, (pss_one (ps_ret (pe_op op_add pe_int (q_call (c__law_drawn T) hr (by decide) rfl (passes_call (takes_of rfl rfl rfl rfl) (fun _ _ _ _ h => h)) (pa_cons (pv 0) (pa_cons (pe_ix (ixL K) (pe_lst (pa_cons pe_int (pa_cons pe_int (pa_cons pe_int pa_nil)))) (q_call (c__law_drawn T) hr (by decide) rfl (passes_call (takes_of rfl rfl rfl rfl) (fun _ _ _ _ h => h)) (pa_cons (pv 0) (pa_cons pe_int pa_nil))) (fun _ _ => rfl)) pa_nil)))))), ?_⟩
    wtm_at "go"
    rename_i l H1 n1 m1 e1
    refine ⟨H0, r, 3, rfl, S.mx0 m1, by omega, by omega, fun x H2 x0 x1 m2 S2 => ?_⟩
    have ne : l ≠ r := by
      obtain ⟨_, _, _, _, _, h, _⟩ := S.ex
      exact (ne_of_none h n1).symm
    have e2 : H2 l = some (.lst [.int 9, .int 40, .int 99999]) := m2 _ _ e1 (by simpa using ne)
    have fin : ∀ n : Int, 0 < n → n ≤ 99999 → spDrawn (K := K) [.ref r, .int n] H2 (fun y H3 => rI0 (fun i j => .int (i + j)) (.int 1) y H3 Q) E := fun n h0 h1 =>
      ⟨H0, r, n, rfl, S2, h0, by omega, fun y H3 y0 y1 m3 S3 => g_I0 (q _ _ (by omega) (by omega) ((m1.of0.trans m2).trans m3) S3)⟩
    have hx : x = 0 ∨ x = 1 ∨ x = 2 := by omega
    rcases hx with rfl | rfl | rfl
    · wtm_at "go"
      exact fin 9 (by omega) (by omega)
    · wtm_at "go"
      exact fin 40 (by omega) (by omega)
    · wtm_at "go"
      exact fin 99999 (by omega) (by omega)
/-- signs and codes -/
theorem sgn_law (k m c a kd : Int) : (k * (17 * m + 31 * c + 53 * a + kd) + (17 * m + 31 * c + 53 * a + kd)) % 999983 = sgn k m c a kd := by
  unfold sgn
  congr 1
  rw [Int.add_mul, Int.one_mul]
theorem c__law_sign (T : Tx K mg) : Cl P w K mg base 1 "_law_sign" spSignOf [] := by
  refine T.f__law_sign.cl sc__law_sign (fun vs H Q E h => ?_) (fun cdv A outer s H vs Q E hr h => ?_)
  · obtain ⟨_, _, _, _, _, rfl, _⟩ := h
    rfl
  · obtain ⟨k, m, c, a, kd, rfl, b1, b2, b3, b4, b5, q⟩ := h
    rw [← sgn_law] at q
    refine ⟨_, (pss_cons (ps_set (i := 5) sc__law_sign.nd rfl (Or.inl rfl) (pe_op op_add (pe_op op_add (pe_op op_add (pe_op op_mulW pe_int (pv 1)) (pe_op op_mulW pe_int (pv 2))) (pe_op op_mulW pe_int (pv 3))) (pv 4)))
      (pss_one (ps_ret (pe_op op_mod (pe_op op_add (pe_op op_mulW (pv 0) (pv 5)) (pv 5)) pe_int)))), ?_⟩
    wtm_at "go"
    exact q
theorem c__law_code (T : Tx K mg) : Cl P w K mg base 2 "_law_code" spCodeOf [] := by
  refine T.f__law_code.cl sc__law_code (fun vs H Q E h => ?_) (fun cdv A outer s H vs Q E hr h => ?_)
  · obtain ⟨_, _, _, _, _, rfl, _⟩ := h
    rfl
  · obtain ⟨k, m, c, a, kd, rfl, b1, b2, b3, b4, b5, q⟩ := h
    refine ⟨_, (pss_one (ps_ret (pe_tup (pa_cons (pv 1) (pa_cons (pv 2) (pa_cons (pv 3) (pa_cons (q_call (c__law_sign T) hr (by decide) rfl (passes_call (takes_of rfl rfl rfl rfl) (fun _ _ _ _ h => h)) (pa_cons (pv 0) (pa_cons (pv 1) (pa_cons (pv 2) (pa_cons (pv 3) (pa_cons (pv 4) pa_nil)))))) pa_nil))))))), ?_⟩
    wtm_at "go"
    refine ⟨k, m, c, a, kd, rfl, b1, b2, b3, b4, b5, ?_⟩
    wtm_at "go"
    exact q _ _ (by assumption) (by assumption) (by assumption)
/-- what a meter is -/
def spLMeter : Sp := fun vs H Q _ => ∃ (n k : Int), vs = [.int n, .int k] ∧ ∀ q qc qs H', H q = none → H qc = none → H qs = none → Mx [] H H' → LmAt K H' q qc qs ⟨n, k, 1 :: List.replicate 19 0, [], true⟩ → Q (.ref q) H'
/-- the bank that stands, by own look -/
def spLBank : Sp := fun vs H Q _ => ∃ (a : Addr) (cs : List Int), vs = [.ref a] ∧ SqL K H a (cs.map V.int) ∧ Any cs ∧ ∀ p H', H p = none → Mx [] H H' → H' p = some (.lst ((bank cs).map V.int)) → Q (.ref p) H'
theorem cut_lo {cs : List Int} : cutV (cs.map V.int) none (some 10) = (cs.take 10).map V.int := by
  have e : (10 : Int) = ((10 : Nat) : Int) := rfl
  rw [e]
  unfold cutV
  rw [HT.sIx_nat, HT.sIx_none, List.length_map, List.drop_zero, Nat.sub_zero, List.map_take]
  by_cases h : 10 ≤ cs.length
  · rw [Nat.min_eq_left h]
  · rw [Nat.min_eq_right (by omega), List.take_of_length_le (by simp), List.take_of_length_le (by simp; omega)]
theorem cut_hi {cs : List Int} : cutV (cs.map V.int) (some 10) none = (cs.drop 10).map V.int := by
  have e : (10 : Int) = ((10 : Nat) : Int) := rfl
  rw [e]
  unfold cutV
  rw [HT.sIx_nat, HT.sIx_none, List.length_map, ← List.map_drop]
  by_cases h : 10 ≤ cs.length
  · rw [Nat.min_eq_left h, List.take_of_length_le (by simp)]
  · rw [Nat.min_eq_right (by omega), Nat.sub_self, List.take_zero, List.drop_eq_nil_of_le (by omega)]
    rfl
end
end Fk
namespace Fk
open PySem PySem.Spec PyProof.Rows L2
local macro_rules | `(tactic| wtm_at "ln") => `(tactic| first
  | omega
  | (simp only [List.length_cons, List.length_nil, List.length_map, List.length_append, List.length_replicate, List.length_take, List.length_drop, List.length_set]; omega)
  | (with_unfolding_all exact (by decide)))
local macro_rules | `(tactic| wtm_at "ar") => `(tactic| first
  | ((with_reducible show CMulW _ _); (refine' mulS ?_ ?_ <;> omega))
  | ((with_reducible show CDivW _ _); (refine' divS ?_ ?_ <;> omega))
  | ((with_reducible show CPow _ _); exact ⟨by decide, by decide, by decide⟩)
  | (show (0 : Int) < _; omega)
  | (with_unfolding_all exact (by decide)))
local macro_rules | `(tactic| wtm_at "at") => `(tactic| first
  | assumption
  | (refine' cl_atE ?e80 ?h80; (case' e80 => first | exact rfl | assumption); (case' h80 => wtm_at "ln"))
  | exact rfl)
local macro_rules | `(tactic| wtm_at "fr") => `(tactic| first
  | assumption
  | ((with_reducible refine' Mx.free0 ?m99 ?h99); (case' h99 => assumption); (case' m99 => wtm_at "mo")))
local macro_rules | `(tactic| wtm_at "hp") => `(tactic| first
  | assumption
  | ((with_reducible refine' Mx.get0 ?m1 ?h1); (case' m1 => assumption); (case' h1 => wtm_at "hp"))
  | ((with_reducible refine' Mx.get ?m2 ?n2 ?h2); (case' m2 => assumption); (case' n2 => wtm_at "nin"); (case' h2 => wtm_at "hp")))
local macro_rules | `(tactic| wtm_at "sl") => `(tactic| first
  | assumption
  | ((with_reducible refine' Mx.sqL0 ?m96 ?h96); (case' h96 => assumption); (case' m96 => wtm_at "mo"))
  | (refine' SqL.of ?h3; (case' h3 => wtm_at "hp"))
  | ((with_reducible refine' Mx.sqL0 ?m4 ?h4); (case' m4 => assumption); (case' h4 => wtm_at "sl"))
  | ((with_reducible refine' Mx.sqL ?m5 ?n5 ?h5); (case' m5 => assumption); (case' n5 => wtm_at "nin"); (case' h5 => wtm_at "sl")))
local macro_rules | `(tactic| wtm_at "st") => `(tactic| first
  | assumption
  | ((with_reducible refine' Mx.sqT0 ?m97 ?h97); (case' h97 => assumption); (case' m97 => wtm_at "mo"))
  | (refine' SqT.of ?h6; (case' h6 => wtm_at "hp"))
  | ((with_reducible refine' Mx.sqT0 ?m7 ?h7); (case' m7 => assumption); (case' h7 => wtm_at "st"))
  | ((with_reducible refine' Mx.sqT ?m8 ?n8 ?h8); (case' m8 => assumption); (case' n8 => wtm_at "nin"); (case' h8 => wtm_at "st")))
local macro_rules | `(tactic| wtm_at "mx") => `(tactic| first
  | assumption
  | exact Mx.refl
  | ((with_reducible refine' Mx.of0 ?h9); (case' h9 => assumption))
  | ((with_reducible refine' Mx.trans ?h10 ?m10); (case' m10 => first | assumption | ((with_reducible refine' Mx.of0 ?q10); (case' q10 => assumption))); (case' h10 => wtm_at "mx")))
local macro_rules | `(tactic| wtm_at "mo") => `(tactic| first
  | wtm_at "mx"
  | ((with_reducible refine' Mx.own ?m90 ?f90 ?k90); (case' k90 => assumption); (case' f90 => wtm_at "fr"); (case' m90 => wtm_at "mo"))
  | ((with_reducible refine' Mx.trans ?h91 ?m91); (case' m91 => first | assumption | ((with_reducible refine' Mx.of0 ?q91); (case' q91 => assumption))); (case' h91 => wtm_at "mo")))
local macro_rules | `(tactic| wtm_at "ne") => `(tactic| first
  | assumption
  | exact Ne.symm (by assumption)
  | ((with_reducible refine' ne_of_none ?x94 ?y94); (case' y94 => assumption); (case' x94 => wtm_at "hp"))
  | ((with_reducible refine' Ne.symm (ne_of_none ?x95 ?y95)); (case' y95 => assumption); (case' x95 => wtm_at "hp")))
local macro_rules | `(tactic| wtm_at "nin") => `(tactic| first
  | assumption
  | exact List.not_mem_nil
  | ((with_reducible refine' List.not_mem_cons_of_ne_of_not_mem ?h98 ?t98); (case' h98 => wtm_at "ne"); (case' t98 => wtm_at "nin")))
local macro_rules | `(tactic| wtm_at "g1") => `(tactic| first
  | ((with_reducible refine' g_var ?h11 ?k11); (case' h11 => exact rfl))
  | with_reducible refine' g_c ?_
  | with_reducible refine' g_op ?_
  | with_reducible refine' g_I0 ?_
  | ((with_reducible refine' g_I ?c12 ?k12); (case' c12 => wtm_at "ar"))
  | with_reducible refine' g_cons ?_
  | with_reducible refine' g_nil ?_
  | with_reducible refine' g_seq ?_
  | with_reducible refine' g_asg ?_
  | with_reducible refine' g_name ?_
  | with_reducible refine' g_ret ?_
  | with_reducible refine' g_if ?_
  | with_reducible refine' g_test ?_
  | with_reducible refine' g_tB ?_
  | with_reducible refine' g_bl ?_
  | ((with_reducible refine' g_eq ?h13 ?k13); (case' h13 => exact rfl))
  | ((with_reducible refine' g_ne ?h14 ?k14); (case' h14 => exact rfl))
  | with_reducible refine' g_CB ?_
  | with_reducible refine' g_call ?_
  | with_reducible refine' g_drop ?_
  | with_reducible refine' g_next ?_
  | with_reducible refine' g_not ?_
  | with_reducible refine' g_and ?_
  | with_reducible refine' g_or ?_
  | with_reducible refine' g_un ?_
  | with_reducible refine' g_U ?_
  | with_reducible refine' g_tup ?_
  | with_reducible refine' g_lst ?_
  | ((with_reducible refine' g_kNew ?h15 ?k15); (case' h15 => wtm_at "ln"); (case' k15 => intro _ _ _ _ _))
  | ((with_reducible refine' g_ixL ?h16 ?a16 ?k16); (case' h16 => wtm_at "sl"); (case' a16 => wtm_at "at"))
  | ((with_reducible refine' g_ixT ?h17 ?a17 ?k17); (case' h17 => wtm_at "st"); (case' a17 => wtm_at "at"))
  | with_reducible refine' g_slice ?_
  | with_reducible refine' g_part ?_
  | with_reducible refine' g_kPart ?_
  | with_reducible refine' g_noPart ?_
  | ((with_reducible refine' g_slL ?h18 ?k18); (case' h18 => wtm_at "sl"); (case' k18 => intro _ _ _ _ _))
  | ((with_reducible refine' g_cat ?h119 ?h219 ?l19 ?k19); (case' h119 => wtm_at "hp"); (case' h219 => wtm_at "hp"); (case' l19 => wtm_at "ln"); (case' k19 => intro _ _ _ _ _))
  | ((with_reducible refine' g_rep ?h120 ?h220 ?h320 ?l20 ?k20); (case' h120 => wtm_at "hp"); (case' h220 => wtm_at "ln"); (case' h320 => wtm_at "ln"); (case' l20 => wtm_at "ln"); (case' k20 => intro _ _ _ _ _))
  | ((with_reducible refine' g_append ?h21 ?l21 ?k21); (case' h21 => wtm_at "hp"); (case' l21 => wtm_at "ln"); (case' k21 => intro _ _ _))
  | ((with_reducible refine' g_kBM ?h22 ?k22); (case' h22 => wtm_at "sl"))
  | ((with_reducible refine' g_kBM0 ?h23 ?k23); (case' h23 => wtm_at "sl"))
  | ((with_reducible refine' g_kL ?h24 ?k24); (case' h24 => wtm_at "sl"))
  | ((with_reducible refine' g_kR1 ?h125 ?h225 ?k25); (case' h125 => wtm_at "ln"); (case' h225 => wtm_at "ln"))
  | ((with_reducible refine' g_kR2 ?h126 ?h226 ?h326 ?h426 ?k26); (case' h126 => wtm_at "ln"); (case' h226 => wtm_at "ln"); (case' h326 => wtm_at "ln"); (case' h426 => wtm_at "ln"))
  | ((with_reducible refine' g_lenL ?h27 ?k27); (case' h27 => wtm_at "sl"))
  | ((with_reducible refine' g_lenT ?h28 ?k28); (case' h28 => wtm_at "st"))
  | ((with_reducible refine' g_listL ?h29 ?k29); (case' h29 => wtm_at "sl"); (case' k29 => intro _ _ _ _ _))
  | ((with_reducible refine' g_tupleL ?h30 ?k30); (case' h30 => wtm_at "sl"); (case' k30 => intro _ _ _ _ _))
  | with_reducible refine' g_max ?_
  | with_reducible refine' g_min ?_
  | with_reducible refine' g_intB ?_
  | with_reducible refine' g_fld ?_
  | with_reducible refine' g_put ?_
  | with_reducible refine' g_dget ?_
  | with_reducible refine' g_isN ?_
  | with_reducible refine' g_notN ?_
  | with_reducible refine' g_ifE ?_
  | with_reducible refine' g_andV ?_
  | with_reducible refine' g_orV ?_
  | with_reducible refine' g_notV ?_
  | with_reducible refine' g_kIf ?_
  | with_reducible refine' g_chain ?_
  | with_reducible refine' g_kCh ?_
  | with_reducible refine' g_sub ?_
  | ((with_reducible refine' g_setI ?h92 ?e92 ?j92 ?k92); (case' h92 => wtm_at "hp"); (case' e92 => first | exact rfl | assumption); (case' j92 => wtm_at "ln"); (case' k92 => intro _ _ _))
  | ((with_reducible refine' g_setL ?h89 ?i89 ?k89); (case' h89 => wtm_at "hp"); (case' i89 => exact ixE rfl (by wtm_at "ln")); (case' k89 => intro _ _ _))
  | ((with_reducible refine' g_gtup ?h93 ?e93 ?k93); (case' h93 => wtm_at "st"); (case' e93 => exact rfl))
  | with_reducible refine' g_gcons ?_
  | with_reducible refine' g_gnil ?_
  | with_reducible refine' g_par ?_
  | with_reducible refine' g_kPar ?_
  | with_reducible refine' g_meth ?_
  | with_reducible refine' g_bm ?_
  | with_reducible refine' g_bm0 ?_
  | with_reducible refine' g_raise ?_
  | with_reducible refine' g_for ?_
  | with_reducible refine' g_iR1 ?_
  | with_reducible refine' g_iR2 ?_
  | with_reducible refine' g_iL ?_
  | with_reducible refine' g_lc ?_
  | with_reducible refine' g_retN ?_
  | with_reducible refine' g_no (b := false) rfl ?_
  | with_reducible refine' g_yes (b := true) rfl ?_)
local macro_rules | `(tactic| wtm_at "go") => `(tactic| repeat (wtm_at "g1"))
local macro_rules | `(tactic| wtm_at "gs") => `(tactic| repeat ((fail_if_success (with_reducible refine' g_ifE ?_)); wtm_at "g1"))
local macro_rules | `(tactic| wtm_at "gi") => `(tactic| repeat ((fail_if_success (with_reducible refine' g_if ?_)); wtm_at "g1"))
local macro_rules | `(tactic| wtm_at "gr") => `(tactic| repeat ((fail_if_success (with_reducible refine' g_ret ?_)); wtm_at "g1"))
local macro_rules | `(tactic| wtm_at "gq") => `(tactic| repeat ((fail_if_success (with_reducible refine' g_asg ?_)); wtm_at "g1"))
/-! ### the law's own steps -/
def newsKvs (chs : List (Nat × Int)) : List (Key × V) := chs.map fun c => (Sum.inl (c.1 : Int), V.int c.2)
theorem newsKvs_get {chs : List (Nat × Int)} (nd : (chs.map (·.1)).Nodup) {c : Nat × Int} (h : c ∈ chs) : valV (newsKvs chs) (Sum.inl (c.1 : Int)) = some (.int c.2) := by
  induction chs with
  | nil => cases h
  | cons b r ih =>
    rw [List.map_cons, List.nodup_cons] at nd
    unfold newsKvs valV
    rw [List.map_cons, List.find?_cons]
    rcases List.mem_cons.mp h with rfl | h
    · simp
    · have : ¬ (b.1 : Int) = (c.1 : Int) := fun e => nd.1 (by
        have : b.1 = c.1 := by omega
        rw [this]
        exact List.mem_map_of_mem h)
      have e2 : decide ((Sum.inl (b.1 : Int) : Key) = Sum.inl (c.1 : Int)) = false := by simp [this]
      simp only [e2]
      exact ih nd.2 h
theorem begin_iff {cs : List Int} (hA : Any cs) : (bank cs = cs.take 10 ∧ cl cs 0 = 1) ↔ stand cs = 0 := by
  constructor
  · rintro ⟨h, h0⟩
    have hs := stand_le cs
    refine Classical.byContradiction fun hn => ?_
    have h1 : stand cs = 1 := by omega
    have a0 : cl (bank cs) 0 = cl cs 0 := by rw [h, cl_take (by omega)]
    have a1 : cl (bank cs) 1 = cl cs 1 := by rw [h, cl_take (by omega)]
    rw [cl_bank (by omega), h1] at a0 a1
    refine hn ?_
    unfold stand
    rw [if_pos]
    refine ⟨h0, fun z => ?_⟩
    have : cl cs 11 = cl cs 1 := a1
    omega
  · intro h
    have hw := stand_whole hA
    rw [h] at hw
    exact ⟨by unfold bank; rw [h]; rfl, hw⟩
section
variable {P : Program} {w : World} {K : PySem.W.Frag} {mg : Str → Option Value} {base : Heap}
local macro_rules | `(tactic| wtm_at "g1") => `(tactic| first
  | ((with_reducible refine' g_fOwn (by assumption) ?h201 ?k201); (case' h201 => wtm_at "hp"))
  | ((with_reducible refine' g_fKey (by assumption) ?h202 ?k202); (case' h202 => wtm_at "hp"))
  | ((with_reducible refine' g_fMem (by assumption) ?h203 ?k203); (case' h203 => wtm_at "hp"))
  | ((with_reducible refine' g_fPri (by assumption) ?h204 ?k204); (case' h204 => wtm_at "hp"))
  | ((with_reducible refine' g_fAwa (by assumption) ?h205 ?k205); (case' h205 => wtm_at "hp"))
  | ((with_reducible refine' g_pAwa (by assumption) ?h206 ?k206); (case' h206 => wtm_at "hp"); (case' k206 => intro _ _ _))
  | ((with_reducible refine' g_kMeth ?h207 ?l207 ?k207); (case' h207 => wtm_at "hp"); (case' l207 => exact rfl)))

local macro_rules | `(tactic| wtm_at "g1") => `(tactic| first
  | ((with_reducible refine' g_dNum ?h311 ?k311); (case' h311 => wtm_at "hp"))
  | ((with_reducible refine' g_dKey ?h312 ?k312); (case' h312 => wtm_at "hp"))
  | ((with_reducible refine' g_dCe ?h313 ?k313); (case' h313 => wtm_at "hp"))
  | ((with_reducible refine' g_dSt ?h314 ?k314); (case' h314 => wtm_at "hp"))
  | ((with_reducible refine' g_dUp ?h315 ?k315); (case' h315 => wtm_at "hp"))
  | ((with_reducible refine' g_kDGetS ?h301 ?l301 ?k301); (case' h301 => wtm_at "hp"); (case' l301 => exact rfl))
  | (with_reducible refine' g_dput ?_)
  | (with_reducible refine' g_iK ?_)
  | ((with_reducible refine' g_disp ?k305); (case' k305 => intro _ _ _ _ _))
  | (with_reducible refine' g_pcons ?_)
  | (with_reducible refine' g_pnil ?_)
  | ((with_reducible refine' g_kDisp ?h306 ?e306 ?f306 ?l306 ?k306); (case' h306 => wtm_at "hp"); (case' e306 => exact rfl); (case' f306 => exact rfl); (case' l306 => wtm_at "ln"); (case' k306 => intro _ _ _))
  | ((with_reducible refine' g_pUp ?h302 ?k302); (case' h302 => wtm_at "hp"); (case' k302 => intro _ _ _))
  | ((with_reducible refine' g_pSt ?h303 ?k303); (case' h303 => wtm_at "hp"); (case' k303 => intro _ _ _))
  | ((with_reducible refine' g_pCe ?h304 ?k304); (case' h304 => wtm_at "hp"); (case' k304 => intro _ _ _)))

def spLSteps : Sp := fun vs H Q _ => ∃ (q qc qs d : Addr) (μ : Mt) (chs : List (Nat × Int)), vs = [.ref q, .ref d] ∧ LmAt K H q qc qs μ ∧ Any μ.cells ∧ H d = some (.dK (newsKvs chs)) ∧ (chs.map (·.1)).Nodup ∧ Chs chs ∧
  ∀ p H' ws, H p = none → Mx [] H H' → H' p = some (.lst ws) → DpAll K H' ws ((stepsOf μ.cells chs).map stD) → Q (.ref p) H'
end
end Fk
namespace Fk
open PySem PySem.Spec PyProof.Rows L2
local macro_rules | `(tactic| wtm_at "ln") => `(tactic| first
  | omega
  | (simp only [List.length_cons, List.length_nil, List.length_map, List.length_append, List.length_replicate, List.length_take, List.length_drop, List.length_set]; omega)
  | (with_unfolding_all exact (by decide)))
local macro_rules | `(tactic| wtm_at "ar") => `(tactic| first
  | ((with_reducible show CMulW _ _); (refine' mulS ?_ ?_ <;> omega))
  | ((with_reducible show CDivW _ _); (refine' divS ?_ ?_ <;> omega))
  | ((with_reducible show CPow _ _); exact ⟨by decide, by decide, by decide⟩)
  | (show (0 : Int) < _; omega)
  | (with_unfolding_all exact (by decide)))
local macro_rules | `(tactic| wtm_at "at") => `(tactic| first
  | assumption
  | (refine' cl_atE ?e80 ?h80; (case' e80 => first | exact rfl | assumption); (case' h80 => wtm_at "ln"))
  | exact rfl)
local macro_rules | `(tactic| wtm_at "fr") => `(tactic| first
  | assumption
  | ((with_reducible refine' Mx.free0 ?m99 ?h99); (case' h99 => assumption); (case' m99 => wtm_at "mo")))
local macro_rules | `(tactic| wtm_at "hp") => `(tactic| first
  | assumption
  | ((with_reducible refine' Mx.get0 ?m1 ?h1); (case' m1 => assumption); (case' h1 => wtm_at "hp"))
  | ((with_reducible refine' Mx.get ?m2 ?n2 ?h2); (case' m2 => assumption); (case' n2 => wtm_at "nin"); (case' h2 => wtm_at "hp")))
local macro_rules | `(tactic| wtm_at "sl") => `(tactic| first
  | assumption
  | ((with_reducible refine' Mx.sqL0 ?m96 ?h96); (case' h96 => assumption); (case' m96 => wtm_at "mo"))
  | (refine' SqL.of ?h3; (case' h3 => wtm_at "hp"))
  | ((with_reducible refine' Mx.sqL0 ?m4 ?h4); (case' m4 => assumption); (case' h4 => wtm_at "sl"))
  | ((with_reducible refine' Mx.sqL ?m5 ?n5 ?h5); (case' m5 => assumption); (case' n5 => wtm_at "nin"); (case' h5 => wtm_at "sl")))
local macro_rules | `(tactic| wtm_at "st") => `(tactic| first
  | assumption
  | ((with_reducible refine' Mx.sqT0 ?m97 ?h97); (case' h97 => assumption); (case' m97 => wtm_at "mo"))
  | (refine' SqT.of ?h6; (case' h6 => wtm_at "hp"))
  | ((with_reducible refine' Mx.sqT0 ?m7 ?h7); (case' m7 => assumption); (case' h7 => wtm_at "st"))
  | ((with_reducible refine' Mx.sqT ?m8 ?n8 ?h8); (case' m8 => assumption); (case' n8 => wtm_at "nin"); (case' h8 => wtm_at "st")))
local macro_rules | `(tactic| wtm_at "mx") => `(tactic| first
  | assumption
  | exact Mx.refl
  | ((with_reducible refine' Mx.of0 ?h9); (case' h9 => assumption))
  | ((with_reducible refine' Mx.trans ?h10 ?m10); (case' m10 => first | assumption | ((with_reducible refine' Mx.of0 ?q10); (case' q10 => assumption))); (case' h10 => wtm_at "mx")))
local macro_rules | `(tactic| wtm_at "mo") => `(tactic| first
  | wtm_at "mx"
  | ((with_reducible refine' Mx.own ?m90 ?f90 ?k90); (case' k90 => assumption); (case' f90 => wtm_at "fr"); (case' m90 => wtm_at "mo"))
  | ((with_reducible refine' Mx.trans ?h91 ?m91); (case' m91 => first | assumption | ((with_reducible refine' Mx.of0 ?q91); (case' q91 => assumption))); (case' h91 => wtm_at "mo")))
local macro_rules | `(tactic| wtm_at "ne") => `(tactic| first
  | assumption
  | exact Ne.symm (by assumption)
  | ((with_reducible refine' ne_of_none ?x94 ?y94); (case' y94 => assumption); (case' x94 => wtm_at "hp"))
  | ((with_reducible refine' Ne.symm (ne_of_none ?x95 ?y95)); (case' y95 => assumption); (case' x95 => wtm_at "hp")))
local macro_rules | `(tactic| wtm_at "nin") => `(tactic| first
  | assumption
  | exact List.not_mem_nil
  | ((with_reducible refine' List.not_mem_cons_of_ne_of_not_mem ?h98 ?t98); (case' h98 => wtm_at "ne"); (case' t98 => wtm_at "nin")))
local macro_rules | `(tactic| wtm_at "g1") => `(tactic| first
  | ((with_reducible refine' g_var ?h11 ?k11); (case' h11 => exact rfl))
  | with_reducible refine' g_c ?_
  | with_reducible refine' g_op ?_
  | with_reducible refine' g_I0 ?_
  | ((with_reducible refine' g_I ?c12 ?k12); (case' c12 => wtm_at "ar"))
  | with_reducible refine' g_cons ?_
  | with_reducible refine' g_nil ?_
  | with_reducible refine' g_seq ?_
  | with_reducible refine' g_asg ?_
  | with_reducible refine' g_name ?_
  | with_reducible refine' g_ret ?_
  | with_reducible refine' g_if ?_
  | with_reducible refine' g_test ?_
  | with_reducible refine' g_tB ?_
  | with_reducible refine' g_bl ?_
  | ((with_reducible refine' g_eq ?h13 ?k13); (case' h13 => exact rfl))
  | ((with_reducible refine' g_ne ?h14 ?k14); (case' h14 => exact rfl))
  | with_reducible refine' g_CB ?_
  | with_reducible refine' g_call ?_
  | with_reducible refine' g_drop ?_
  | with_reducible refine' g_next ?_
  | with_reducible refine' g_not ?_
  | with_reducible refine' g_and ?_
  | with_reducible refine' g_or ?_
  | with_reducible refine' g_un ?_
  | with_reducible refine' g_U ?_
  | with_reducible refine' g_tup ?_
  | with_reducible refine' g_lst ?_
  | ((with_reducible refine' g_kNew ?h15 ?k15); (case' h15 => wtm_at "ln"); (case' k15 => intro _ _ _ _ _))
  | ((with_reducible refine' g_ixL ?h16 ?a16 ?k16); (case' h16 => wtm_at "sl"); (case' a16 => wtm_at "at"))
  | ((with_reducible refine' g_ixT ?h17 ?a17 ?k17); (case' h17 => wtm_at "st"); (case' a17 => wtm_at "at"))
  | with_reducible refine' g_slice ?_
  | with_reducible refine' g_part ?_
  | with_reducible refine' g_kPart ?_
  | with_reducible refine' g_noPart ?_
  | ((with_reducible refine' g_slL ?h18 ?k18); (case' h18 => wtm_at "sl"); (case' k18 => intro _ _ _ _ _))
  | ((with_reducible refine' g_cat ?h119 ?h219 ?l19 ?k19); (case' h119 => wtm_at "hp"); (case' h219 => wtm_at "hp"); (case' l19 => wtm_at "ln"); (case' k19 => intro _ _ _ _ _))
  | ((with_reducible refine' g_rep ?h120 ?h220 ?h320 ?l20 ?k20); (case' h120 => wtm_at "hp"); (case' h220 => wtm_at "ln"); (case' h320 => wtm_at "ln"); (case' l20 => wtm_at "ln"); (case' k20 => intro _ _ _ _ _))
  | ((with_reducible refine' g_append ?h21 ?l21 ?k21); (case' h21 => wtm_at "hp"); (case' l21 => wtm_at "ln"); (case' k21 => intro _ _ _))
  | ((with_reducible refine' g_kBM ?h22 ?k22); (case' h22 => wtm_at "sl"))
  | ((with_reducible refine' g_kBM0 ?h23 ?k23); (case' h23 => wtm_at "sl"))
  | ((with_reducible refine' g_kL ?h24 ?k24); (case' h24 => wtm_at "sl"))
  | ((with_reducible refine' g_kR1 ?h125 ?h225 ?k25); (case' h125 => wtm_at "ln"); (case' h225 => wtm_at "ln"))
  | ((with_reducible refine' g_kR2 ?h126 ?h226 ?h326 ?h426 ?k26); (case' h126 => wtm_at "ln"); (case' h226 => wtm_at "ln"); (case' h326 => wtm_at "ln"); (case' h426 => wtm_at "ln"))
  | ((with_reducible refine' g_lenL ?h27 ?k27); (case' h27 => wtm_at "sl"))
  | ((with_reducible refine' g_lenT ?h28 ?k28); (case' h28 => wtm_at "st"))
  | ((with_reducible refine' g_listL ?h29 ?k29); (case' h29 => wtm_at "sl"); (case' k29 => intro _ _ _ _ _))
  | ((with_reducible refine' g_tupleL ?h30 ?k30); (case' h30 => wtm_at "sl"); (case' k30 => intro _ _ _ _ _))
  | with_reducible refine' g_max ?_
  | with_reducible refine' g_min ?_
  | with_reducible refine' g_intB ?_
  | with_reducible refine' g_fld ?_
  | with_reducible refine' g_put ?_
  | with_reducible refine' g_dget ?_
  | with_reducible refine' g_isN ?_
  | with_reducible refine' g_notN ?_
  | with_reducible refine' g_ifE ?_
  | with_reducible refine' g_andV ?_
  | with_reducible refine' g_orV ?_
  | with_reducible refine' g_notV ?_
  | with_reducible refine' g_kIf ?_
  | with_reducible refine' g_chain ?_
  | with_reducible refine' g_kCh ?_
  | with_reducible refine' g_sub ?_
  | ((with_reducible refine' g_setI ?h92 ?e92 ?j92 ?k92); (case' h92 => wtm_at "hp"); (case' e92 => first | exact rfl | assumption); (case' j92 => wtm_at "ln"); (case' k92 => intro _ _ _))
  | ((with_reducible refine' g_setL ?h89 ?i89 ?k89); (case' h89 => wtm_at "hp"); (case' i89 => exact ixE rfl (by wtm_at "ln")); (case' k89 => intro _ _ _))
  | ((with_reducible refine' g_gtup ?h93 ?e93 ?k93); (case' h93 => wtm_at "st"); (case' e93 => exact rfl))
  | with_reducible refine' g_gcons ?_
  | with_reducible refine' g_gnil ?_
  | with_reducible refine' g_par ?_
  | with_reducible refine' g_kPar ?_
  | with_reducible refine' g_meth ?_
  | with_reducible refine' g_bm ?_
  | with_reducible refine' g_bm0 ?_
  | with_reducible refine' g_raise ?_
  | with_reducible refine' g_for ?_
  | with_reducible refine' g_iR1 ?_
  | with_reducible refine' g_iR2 ?_
  | with_reducible refine' g_iL ?_
  | with_reducible refine' g_lc ?_
  | with_reducible refine' g_retN ?_
  | with_reducible refine' g_no (b := false) rfl ?_
  | with_reducible refine' g_yes (b := true) rfl ?_)
local macro_rules | `(tactic| wtm_at "go") => `(tactic| repeat (wtm_at "g1"))
local macro_rules | `(tactic| wtm_at "gs") => `(tactic| repeat ((fail_if_success (with_reducible refine' g_ifE ?_)); wtm_at "g1"))
local macro_rules | `(tactic| wtm_at "gi") => `(tactic| repeat ((fail_if_success (with_reducible refine' g_if ?_)); wtm_at "g1"))
local macro_rules | `(tactic| wtm_at "gr") => `(tactic| repeat ((fail_if_success (with_reducible refine' g_ret ?_)); wtm_at "g1"))
local macro_rules | `(tactic| wtm_at "gq") => `(tactic| repeat ((fail_if_success (with_reducible refine' g_asg ?_)); wtm_at "g1"))
/-! ### the law's own deeds -/
def runM (μ : Mt) (chs : List (Nat × Int)) (cut : Option Nat) : Bool × Mt :=
  match writeM μ chs cut with
  | (none, μ1) => (false, μ1)
  | (some left, μ1) => printM μ1 left
theorem lastNo_cons (ss : List (Int × Int)) : lastNo ((0, 0) :: ss) = lastNo ss := by
  unfold lastNo
  cases ss with
  | nil => rfl
  | cons a r => rw [List.getLast?_cons_cons]
section
variable {P : Program} {w : World} {K : PySem.W.Frag} {mg : Str → Option Value} {base : Heap}
local macro_rules | `(tactic| wtm_at "g1") => `(tactic| first
  | ((with_reducible refine' g_fOwn (by assumption) ?h201 ?k201); (case' h201 => wtm_at "hp"))
  | ((with_reducible refine' g_fKey (by assumption) ?h202 ?k202); (case' h202 => wtm_at "hp"))
  | ((with_reducible refine' g_fMem (by assumption) ?h203 ?k203); (case' h203 => wtm_at "hp"))
  | ((with_reducible refine' g_fPri (by assumption) ?h204 ?k204); (case' h204 => wtm_at "hp"))
  | ((with_reducible refine' g_fAwa (by assumption) ?h205 ?k205); (case' h205 => wtm_at "hp"))
  | ((with_reducible refine' g_pAwa (by assumption) ?h206 ?k206); (case' h206 => wtm_at "hp"); (case' k206 => intro _ _ _))
  | ((with_reducible refine' g_kMeth ?h207 ?l207 ?k207); (case' h207 => wtm_at "hp"); (case' l207 => exact rfl)))

local macro_rules | `(tactic| wtm_at "g1") => `(tactic| first
  | ((with_reducible refine' g_dNum ?h311 ?k311); (case' h311 => wtm_at "hp"))
  | ((with_reducible refine' g_dKey ?h312 ?k312); (case' h312 => wtm_at "hp"))
  | ((with_reducible refine' g_dCe ?h313 ?k313); (case' h313 => wtm_at "hp"))
  | ((with_reducible refine' g_dSt ?h314 ?k314); (case' h314 => wtm_at "hp"))
  | ((with_reducible refine' g_dUp ?h315 ?k315); (case' h315 => wtm_at "hp"))
  | ((with_reducible refine' g_kDGetS ?h301 ?l301 ?k301); (case' h301 => wtm_at "hp"); (case' l301 => exact rfl))
  | (with_reducible refine' g_dput ?_)
  | (with_reducible refine' g_iK ?_)
  | ((with_reducible refine' g_disp ?k305); (case' k305 => intro _ _ _ _ _))
  | (with_reducible refine' g_pcons ?_)
  | (with_reducible refine' g_pnil ?_)
  | ((with_reducible refine' g_kDisp ?h306 ?e306 ?f306 ?l306 ?k306); (case' h306 => wtm_at "hp"); (case' e306 => exact rfl); (case' f306 => exact rfl); (case' l306 => wtm_at "ln"); (case' k306 => intro _ _ _))
  | ((with_reducible refine' g_pUp ?h302 ?k302); (case' h302 => wtm_at "hp"); (case' k302 => intro _ _ _))
  | ((with_reducible refine' g_pSt ?h303 ?k303); (case' h303 => wtm_at "hp"); (case' k303 => intro _ _ _))
  | ((with_reducible refine' g_pCe ?h304 ?k304); (case' h304 => wtm_at "hp"); (case' k304 => intro _ _ _)))

def spLOwed : Sp := fun vs H Q _ => ∃ (q qc qs : Addr) (μ : Mt), vs = [.ref q] ∧ LmAt K H q qc qs μ ∧ Any μ.cells ∧ μ.stamps.length < 1000 ∧
  match owed μ with
  | none => ∀ H', Mx [] H H' → Q .non H'
  | some s => ∀ l H', H l = none → Mx [] H H' → H' l = some (.tup [.int s.1, .int s.2]) → Q (.ref l) H'
/-- the steps and the print that is owed, up to a cut -/
def spLRun : Sp := fun vs H Q _ => ∃ (q qc qs d : Addr) (μ : Mt) (chs : List (Nat × Int)) (cut : Option Nat), vs = [.ref q, .ref d, cutO cut] ∧ LmAt K H q qc qs μ ∧ Any μ.cells ∧ μ.stamps.length < 1000 ∧ H d = some (.dK (newsKvs chs)) ∧ (chs.map (·.1)).Nodup ∧ Chs chs ∧
  ∀ H', Mx [q, qc, qs] H H' → LmAt K H' q qc qs (runM μ chs cut).2 → Q (.bl (runM μ chs cut).1) H'
theorem cut_eq {c : Option Nat} {i : Nat} (h : decide (V.int (i : Int) = cutO c) = true) : c = some i := by
  cases c with
  | none => simp [cutO] at h
  | some k => simp [cutO] at h; simp; omega
theorem cut_ne {c : Option Nat} {i : Nat} (h : decide (V.int (i : Int) = cutO c) = false) : c ≠ some i := by
  rintro rfl
  simp [cutO] at h
theorem scal_icut (i : Int) (c : Option Nat) : scal (.int i) (cutO c) = true := by cases c <;> rfl
theorem scal_cuti (i : Int) (c : Option Nat) : scal (cutO c) (.int i) = true := by cases c <;> rfl
end
end Fk
namespace Fk
open PySem PySem.Spec PyProof.Rows L2
local macro_rules | `(tactic| wtm_at "ln") => `(tactic| first
  | omega
  | (simp only [List.length_cons, List.length_nil, List.length_map, List.length_append, List.length_replicate, List.length_take, List.length_drop, List.length_set]; omega)
  | (with_unfolding_all exact (by decide)))
local macro_rules | `(tactic| wtm_at "ar") => `(tactic| first
  | ((with_reducible show CMulW _ _); (refine' mulS ?_ ?_ <;> omega))
  | ((with_reducible show CDivW _ _); (refine' divS ?_ ?_ <;> omega))
  | ((with_reducible show CPow _ _); exact ⟨by decide, by decide, by decide⟩)
  | (show (0 : Int) < _; omega)
  | (with_unfolding_all exact (by decide)))
local macro_rules | `(tactic| wtm_at "at") => `(tactic| first
  | assumption
  | (refine' cl_atE ?e80 ?h80; (case' e80 => first | exact rfl | assumption); (case' h80 => wtm_at "ln"))
  | exact rfl)
local macro_rules | `(tactic| wtm_at "fr") => `(tactic| first
  | assumption
  | ((with_reducible refine' Mx.free0 ?m99 ?h99); (case' h99 => assumption); (case' m99 => wtm_at "mo")))
local macro_rules | `(tactic| wtm_at "hp") => `(tactic| first
  | assumption
  | ((with_reducible refine' Mx.get0 ?m1 ?h1); (case' m1 => assumption); (case' h1 => wtm_at "hp"))
  | ((with_reducible refine' Mx.get ?m2 ?n2 ?h2); (case' m2 => assumption); (case' n2 => wtm_at "nin"); (case' h2 => wtm_at "hp")))
local macro_rules | `(tactic| wtm_at "sl") => `(tactic| first
  | assumption
  | ((with_reducible refine' Mx.sqL0 ?m96 ?h96); (case' h96 => assumption); (case' m96 => wtm_at "mo"))
  | (refine' SqL.of ?h3; (case' h3 => wtm_at "hp"))
  | ((with_reducible refine' Mx.sqL0 ?m4 ?h4); (case' m4 => assumption); (case' h4 => wtm_at "sl"))
  | ((with_reducible refine' Mx.sqL ?m5 ?n5 ?h5); (case' m5 => assumption); (case' n5 => wtm_at "nin"); (case' h5 => wtm_at "sl")))
local macro_rules | `(tactic| wtm_at "st") => `(tactic| first
  | assumption
  | ((with_reducible refine' Mx.sqT0 ?m97 ?h97); (case' h97 => assumption); (case' m97 => wtm_at "mo"))
  | (refine' SqT.of ?h6; (case' h6 => wtm_at "hp"))
  | ((with_reducible refine' Mx.sqT0 ?m7 ?h7); (case' m7 => assumption); (case' h7 => wtm_at "st"))
  | ((with_reducible refine' Mx.sqT ?m8 ?n8 ?h8); (case' m8 => assumption); (case' n8 => wtm_at "nin"); (case' h8 => wtm_at "st")))
local macro_rules | `(tactic| wtm_at "mx") => `(tactic| first
  | assumption
  | exact Mx.refl
  | ((with_reducible refine' Mx.of0 ?h9); (case' h9 => assumption))
  | ((with_reducible refine' Mx.trans ?h10 ?m10); (case' m10 => first | assumption | ((with_reducible refine' Mx.of0 ?q10); (case' q10 => assumption))); (case' h10 => wtm_at "mx")))
local macro_rules | `(tactic| wtm_at "mo") => `(tactic| first
  | wtm_at "mx"
  | ((with_reducible refine' Mx.own ?m90 ?f90 ?k90); (case' k90 => assumption); (case' f90 => wtm_at "fr"); (case' m90 => wtm_at "mo"))
  | ((with_reducible refine' Mx.trans ?h91 ?m91); (case' m91 => first | assumption | ((with_reducible refine' Mx.of0 ?q91); (case' q91 => assumption))); (case' h91 => wtm_at "mo")))
local macro_rules | `(tactic| wtm_at "ne") => `(tactic| first
  | assumption
  | exact Ne.symm (by assumption)
  | ((with_reducible refine' ne_of_none ?x94 ?y94); (case' y94 => assumption); (case' x94 => wtm_at "hp"))
  | ((with_reducible refine' Ne.symm (ne_of_none ?x95 ?y95)); (case' y95 => assumption); (case' x95 => wtm_at "hp")))
local macro_rules | `(tactic| wtm_at "nin") => `(tactic| first
  | assumption
  | exact List.not_mem_nil
  | ((with_reducible refine' List.not_mem_cons_of_ne_of_not_mem ?h98 ?t98); (case' h98 => wtm_at "ne"); (case' t98 => wtm_at "nin")))
local macro_rules | `(tactic| wtm_at "g1") => `(tactic| first
  | ((with_reducible refine' g_var ?h11 ?k11); (case' h11 => exact rfl))
  | with_reducible refine' g_c ?_
  | with_reducible refine' g_op ?_
  | with_reducible refine' g_I0 ?_
  | ((with_reducible refine' g_I ?c12 ?k12); (case' c12 => wtm_at "ar"))
  | with_reducible refine' g_cons ?_
  | with_reducible refine' g_nil ?_
  | with_reducible refine' g_seq ?_
  | with_reducible refine' g_asg ?_
  | with_reducible refine' g_name ?_
  | with_reducible refine' g_ret ?_
  | with_reducible refine' g_if ?_
  | with_reducible refine' g_test ?_
  | with_reducible refine' g_tB ?_
  | with_reducible refine' g_bl ?_
  | ((with_reducible refine' g_eq ?h13 ?k13); (case' h13 => exact rfl))
  | ((with_reducible refine' g_ne ?h14 ?k14); (case' h14 => exact rfl))
  | with_reducible refine' g_CB ?_
  | with_reducible refine' g_call ?_
  | with_reducible refine' g_drop ?_
  | with_reducible refine' g_next ?_
  | with_reducible refine' g_not ?_
  | with_reducible refine' g_and ?_
  | with_reducible refine' g_or ?_
  | with_reducible refine' g_un ?_
  | with_reducible refine' g_U ?_
  | with_reducible refine' g_tup ?_
  | with_reducible refine' g_lst ?_
  | ((with_reducible refine' g_kNew ?h15 ?k15); (case' h15 => wtm_at "ln"); (case' k15 => intro _ _ _ _ _))
  | ((with_reducible refine' g_ixL ?h16 ?a16 ?k16); (case' h16 => wtm_at "sl"); (case' a16 => wtm_at "at"))
  | ((with_reducible refine' g_ixT ?h17 ?a17 ?k17); (case' h17 => wtm_at "st"); (case' a17 => wtm_at "at"))
  | with_reducible refine' g_slice ?_
  | with_reducible refine' g_part ?_
  | with_reducible refine' g_kPart ?_
  | with_reducible refine' g_noPart ?_
  | ((with_reducible refine' g_slL ?h18 ?k18); (case' h18 => wtm_at "sl"); (case' k18 => intro _ _ _ _ _))
  | ((with_reducible refine' g_cat ?h119 ?h219 ?l19 ?k19); (case' h119 => wtm_at "hp"); (case' h219 => wtm_at "hp"); (case' l19 => wtm_at "ln"); (case' k19 => intro _ _ _ _ _))
  | ((with_reducible refine' g_rep ?h120 ?h220 ?h320 ?l20 ?k20); (case' h120 => wtm_at "hp"); (case' h220 => wtm_at "ln"); (case' h320 => wtm_at "ln"); (case' l20 => wtm_at "ln"); (case' k20 => intro _ _ _ _ _))
  | ((with_reducible refine' g_append ?h21 ?l21 ?k21); (case' h21 => wtm_at "hp"); (case' l21 => wtm_at "ln"); (case' k21 => intro _ _ _))
  | ((with_reducible refine' g_kBM ?h22 ?k22); (case' h22 => wtm_at "sl"))
  | ((with_reducible refine' g_kBM0 ?h23 ?k23); (case' h23 => wtm_at "sl"))
  | ((with_reducible refine' g_kL ?h24 ?k24); (case' h24 => wtm_at "sl"))
  | ((with_reducible refine' g_kR1 ?h125 ?h225 ?k25); (case' h125 => wtm_at "ln"); (case' h225 => wtm_at "ln"))
  | ((with_reducible refine' g_kR2 ?h126 ?h226 ?h326 ?h426 ?k26); (case' h126 => wtm_at "ln"); (case' h226 => wtm_at "ln"); (case' h326 => wtm_at "ln"); (case' h426 => wtm_at "ln"))
  | ((with_reducible refine' g_lenL ?h27 ?k27); (case' h27 => wtm_at "sl"))
  | ((with_reducible refine' g_lenT ?h28 ?k28); (case' h28 => wtm_at "st"))
  | ((with_reducible refine' g_listL ?h29 ?k29); (case' h29 => wtm_at "sl"); (case' k29 => intro _ _ _ _ _))
  | ((with_reducible refine' g_tupleL ?h30 ?k30); (case' h30 => wtm_at "sl"); (case' k30 => intro _ _ _ _ _))
  | with_reducible refine' g_max ?_
  | with_reducible refine' g_min ?_
  | with_reducible refine' g_intB ?_
  | with_reducible refine' g_fld ?_
  | with_reducible refine' g_put ?_
  | with_reducible refine' g_dget ?_
  | with_reducible refine' g_isN ?_
  | with_reducible refine' g_notN ?_
  | with_reducible refine' g_ifE ?_
  | with_reducible refine' g_andV ?_
  | with_reducible refine' g_orV ?_
  | with_reducible refine' g_notV ?_
  | with_reducible refine' g_kIf ?_
  | with_reducible refine' g_chain ?_
  | with_reducible refine' g_kCh ?_
  | with_reducible refine' g_sub ?_
  | ((with_reducible refine' g_setI ?h92 ?e92 ?j92 ?k92); (case' h92 => wtm_at "hp"); (case' e92 => first | exact rfl | assumption); (case' j92 => wtm_at "ln"); (case' k92 => intro _ _ _))
  | ((with_reducible refine' g_setL ?h89 ?i89 ?k89); (case' h89 => wtm_at "hp"); (case' i89 => exact ixE rfl (by wtm_at "ln")); (case' k89 => intro _ _ _))
  | ((with_reducible refine' g_gtup ?h93 ?e93 ?k93); (case' h93 => wtm_at "st"); (case' e93 => exact rfl))
  | with_reducible refine' g_gcons ?_
  | with_reducible refine' g_gnil ?_
  | with_reducible refine' g_par ?_
  | with_reducible refine' g_kPar ?_
  | with_reducible refine' g_meth ?_
  | with_reducible refine' g_bm ?_
  | with_reducible refine' g_bm0 ?_
  | with_reducible refine' g_raise ?_
  | with_reducible refine' g_for ?_
  | with_reducible refine' g_iR1 ?_
  | with_reducible refine' g_iR2 ?_
  | with_reducible refine' g_iL ?_
  | with_reducible refine' g_lc ?_
  | with_reducible refine' g_retN ?_
  | with_reducible refine' g_no (b := false) rfl ?_
  | with_reducible refine' g_yes (b := true) rfl ?_)
local macro_rules | `(tactic| wtm_at "go") => `(tactic| repeat (wtm_at "g1"))
local macro_rules | `(tactic| wtm_at "gs") => `(tactic| repeat ((fail_if_success (with_reducible refine' g_ifE ?_)); wtm_at "g1"))
local macro_rules | `(tactic| wtm_at "gi") => `(tactic| repeat ((fail_if_success (with_reducible refine' g_if ?_)); wtm_at "g1"))
local macro_rules | `(tactic| wtm_at "gr") => `(tactic| repeat ((fail_if_success (with_reducible refine' g_ret ?_)); wtm_at "g1"))
local macro_rules | `(tactic| wtm_at "gq") => `(tactic| repeat ((fail_if_success (with_reducible refine' g_asg ?_)); wtm_at "g1"))
/-! ### deeds, told and gone through -/
inductive Dd where
  | stamp (a : Int) | back (a : Int) | top (z : Cd) | up
/-- a deed's tuple -/
def DdAt (H : Hp) (t : Addr) : Dd → Prop
  | .stamp a => H t = some (.tup [.str "stamp", .int a])
  | .back a => H t = some (.tup [.str "give_back", .int a])
  | .top z => ∃ c, H t = some (.tup [.str "top_up", .ref c]) ∧ H c = some (.tup z.vs)
  | .up => H t = some (.tup [.str "come_up"])
theorem mx_tup {S : List Addr} {H H' : Hp} {a : Addr} {xs : List V} (m : Mx S H H') (n : NoTup H S) (h : H a = some (.tup xs)) : H' a = some (.tup xs) := m a _ h fun z => (n a z _ h).1 xs rfl
theorem DdAt.mx {S : List Addr} {H H' : Hp} {t : Addr} {d : Dd} (h : DdAt H t d) (m : Mx S H H') (n : NoTup H S) : DdAt H' t d := by
  cases d with
  | stamp a => exact mx_tup m n h
  | back a => exact mx_tup m n h
  | up => exact mx_tup m n h
  | top z => obtain ⟨c, h1, h2⟩ := h; exact ⟨c, mx_tup m n h1, mx_tup m n h2⟩
theorem DdAt.mx0 {H H' : Hp} {t : Addr} {d : Dd} (h : DdAt H t d) (m : Mx [] H H') : DdAt H' t d := h.mx m noTup0
def Rf.word : Rf → Str
  | .down => "Down"
  | .up => "Up"
  | .amount => "BadAmount"
  | .code => "BadCode"
  | .short => "Short"
  | .bank => "NoBank"
  | .number => "BadNumber"
  | .meter => "NoMeter"
def refR (μ : Mt) : Dd → Option Rf
  | .stamp a => stampR μ a
  | .back a => stampR μ a
  | .top z => topR μ z
  | .up => none
def wordOf : Option Rf → Str
  | none => ""
  | some r => r.word
def Dd.small : Dd → Prop
  | .stamp _ => True
  | .back _ => True
  | .top z => Bd z.m ∧ Bd z.c
  | .up => True
section
variable {P : Program} {w : World} {K : PySem.W.Frag} {mg : Str → Option Value} {base : Heap}
local macro_rules | `(tactic| wtm_at "g1") => `(tactic| first
  | ((with_reducible refine' g_fOwn (by assumption) ?h201 ?k201); (case' h201 => wtm_at "hp"))
  | ((with_reducible refine' g_fKey (by assumption) ?h202 ?k202); (case' h202 => wtm_at "hp"))
  | ((with_reducible refine' g_fMem (by assumption) ?h203 ?k203); (case' h203 => wtm_at "hp"))
  | ((with_reducible refine' g_fPri (by assumption) ?h204 ?k204); (case' h204 => wtm_at "hp"))
  | ((with_reducible refine' g_fAwa (by assumption) ?h205 ?k205); (case' h205 => wtm_at "hp"))
  | ((with_reducible refine' g_pAwa (by assumption) ?h206 ?k206); (case' h206 => wtm_at "hp"); (case' k206 => intro _ _ _))
  | ((with_reducible refine' g_kMeth ?h207 ?l207 ?k207); (case' h207 => wtm_at "hp"); (case' l207 => exact rfl)))

local macro_rules | `(tactic| wtm_at "g1") => `(tactic| first
  | ((with_reducible refine' g_dNum ?h311 ?k311); (case' h311 => wtm_at "hp"))
  | ((with_reducible refine' g_dKey ?h312 ?k312); (case' h312 => wtm_at "hp"))
  | ((with_reducible refine' g_dCe ?h313 ?k313); (case' h313 => wtm_at "hp"))
  | ((with_reducible refine' g_dSt ?h314 ?k314); (case' h314 => wtm_at "hp"))
  | ((with_reducible refine' g_dUp ?h315 ?k315); (case' h315 => wtm_at "hp"))
  | ((with_reducible refine' g_kDGetS ?h301 ?l301 ?k301); (case' h301 => wtm_at "hp"); (case' l301 => exact rfl))
  | (with_reducible refine' g_dput ?_)
  | (with_reducible refine' g_iK ?_)
  | ((with_reducible refine' g_disp ?k305); (case' k305 => intro _ _ _ _ _))
  | (with_reducible refine' g_pcons ?_)
  | (with_reducible refine' g_pnil ?_)
  | ((with_reducible refine' g_kDisp ?h306 ?e306 ?f306 ?l306 ?k306); (case' h306 => wtm_at "hp"); (case' e306 => exact rfl); (case' f306 => exact rfl); (case' l306 => wtm_at "ln"); (case' k306 => intro _ _ _))
  | ((with_reducible refine' g_pUp ?h302 ?k302); (case' h302 => wtm_at "hp"); (case' k302 => intro _ _ _))
  | ((with_reducible refine' g_pSt ?h303 ?k303); (case' h303 => wtm_at "hp"); (case' k303 => intro _ _ _))
  | ((with_reducible refine' g_pCe ?h304 ?k304); (case' h304 => wtm_at "hp"); (case' k304 => intro _ _ _)))

/-- the word of a refusal -/
def spLWord : Sp := fun vs H Q _ => ∃ (q qc qs t : Addr) (μ : Mt) (d : Dd), vs = [.ref q, .ref t] ∧ LmAt K H q qc qs μ ∧ Any μ.cells ∧ Sm μ ∧ DdAt H t d ∧ d ≠ .up ∧ ∀ H', Mx [] H H' → Q (.str (wordOf (refR μ d))) H'
end
end Fk
namespace Fk
open PySem PySem.Spec PyProof.Rows L2
local macro_rules | `(tactic| wtm_at "ln") => `(tactic| first
  | omega
  | (simp only [List.length_cons, List.length_nil, List.length_map, List.length_append, List.length_replicate, List.length_take, List.length_drop, List.length_set]; omega)
  | (with_unfolding_all exact (by decide)))
local macro_rules | `(tactic| wtm_at "ar") => `(tactic| first
  | ((with_reducible show CMulW _ _); (refine' mulS ?_ ?_ <;> omega))
  | ((with_reducible show CDivW _ _); (refine' divS ?_ ?_ <;> omega))
  | ((with_reducible show CPow _ _); exact ⟨by decide, by decide, by decide⟩)
  | (show (0 : Int) < _; omega)
  | (with_unfolding_all exact (by decide)))
local macro_rules | `(tactic| wtm_at "at") => `(tactic| first
  | assumption
  | (refine' cl_atE ?e80 ?h80; (case' e80 => first | exact rfl | assumption); (case' h80 => wtm_at "ln"))
  | exact rfl)
local macro_rules | `(tactic| wtm_at "fr") => `(tactic| first
  | assumption
  | ((with_reducible refine' Mx.free0 ?m99 ?h99); (case' h99 => assumption); (case' m99 => wtm_at "mo")))
local macro_rules | `(tactic| wtm_at "hp") => `(tactic| first
  | assumption
  | ((with_reducible refine' Mx.get0 ?m1 ?h1); (case' m1 => assumption); (case' h1 => wtm_at "hp"))
  | ((with_reducible refine' Mx.get ?m2 ?n2 ?h2); (case' m2 => assumption); (case' n2 => wtm_at "nin"); (case' h2 => wtm_at "hp")))
local macro_rules | `(tactic| wtm_at "sl") => `(tactic| first
  | assumption
  | ((with_reducible refine' Mx.sqL0 ?m96 ?h96); (case' h96 => assumption); (case' m96 => wtm_at "mo"))
  | (refine' SqL.of ?h3; (case' h3 => wtm_at "hp"))
  | ((with_reducible refine' Mx.sqL0 ?m4 ?h4); (case' m4 => assumption); (case' h4 => wtm_at "sl"))
  | ((with_reducible refine' Mx.sqL ?m5 ?n5 ?h5); (case' m5 => assumption); (case' n5 => wtm_at "nin"); (case' h5 => wtm_at "sl")))
local macro_rules | `(tactic| wtm_at "st") => `(tactic| first
  | assumption
  | ((with_reducible refine' Mx.sqT0 ?m97 ?h97); (case' h97 => assumption); (case' m97 => wtm_at "mo"))
  | (refine' SqT.of ?h6; (case' h6 => wtm_at "hp"))
  | ((with_reducible refine' Mx.sqT0 ?m7 ?h7); (case' m7 => assumption); (case' h7 => wtm_at "st"))
  | ((with_reducible refine' Mx.sqT ?m8 ?n8 ?h8); (case' m8 => assumption); (case' n8 => wtm_at "nin"); (case' h8 => wtm_at "st")))
local macro_rules | `(tactic| wtm_at "mx") => `(tactic| first
  | assumption
  | exact Mx.refl
  | ((with_reducible refine' Mx.of0 ?h9); (case' h9 => assumption))
  | ((with_reducible refine' Mx.trans ?h10 ?m10); (case' m10 => first | assumption | ((with_reducible refine' Mx.of0 ?q10); (case' q10 => assumption))); (case' h10 => wtm_at "mx")))
local macro_rules | `(tactic| wtm_at "mo") => `(tactic| first
  | wtm_at "mx"
  | ((with_reducible refine' Mx.own ?m90 ?f90 ?k90); (case' k90 => assumption); (case' f90 => wtm_at "fr"); (case' m90 => wtm_at "mo"))
  | ((with_reducible refine' Mx.trans ?h91 ?m91); (case' m91 => first | assumption | ((with_reducible refine' Mx.of0 ?q91); (case' q91 => assumption))); (case' h91 => wtm_at "mo")))
local macro_rules | `(tactic| wtm_at "ne") => `(tactic| first
  | assumption
  | exact Ne.symm (by assumption)
  | ((with_reducible refine' ne_of_none ?x94 ?y94); (case' y94 => assumption); (case' x94 => wtm_at "hp"))
  | ((with_reducible refine' Ne.symm (ne_of_none ?x95 ?y95)); (case' y95 => assumption); (case' x95 => wtm_at "hp")))
local macro_rules | `(tactic| wtm_at "nin") => `(tactic| first
  | assumption
  | exact List.not_mem_nil
  | ((with_reducible refine' List.not_mem_cons_of_ne_of_not_mem ?h98 ?t98); (case' h98 => wtm_at "ne"); (case' t98 => wtm_at "nin")))
local macro_rules | `(tactic| wtm_at "g1") => `(tactic| first
  | ((with_reducible refine' g_var ?h11 ?k11); (case' h11 => exact rfl))
  | with_reducible refine' g_c ?_
  | with_reducible refine' g_op ?_
  | with_reducible refine' g_I0 ?_
  | ((with_reducible refine' g_I ?c12 ?k12); (case' c12 => wtm_at "ar"))
  | with_reducible refine' g_cons ?_
  | with_reducible refine' g_nil ?_
  | with_reducible refine' g_seq ?_
  | with_reducible refine' g_asg ?_
  | with_reducible refine' g_name ?_
  | with_reducible refine' g_ret ?_
  | with_reducible refine' g_if ?_
  | with_reducible refine' g_test ?_
  | with_reducible refine' g_tB ?_
  | with_reducible refine' g_bl ?_
  | ((with_reducible refine' g_eq ?h13 ?k13); (case' h13 => exact rfl))
  | ((with_reducible refine' g_ne ?h14 ?k14); (case' h14 => exact rfl))
  | with_reducible refine' g_CB ?_
  | with_reducible refine' g_call ?_
  | with_reducible refine' g_drop ?_
  | with_reducible refine' g_next ?_
  | with_reducible refine' g_not ?_
  | with_reducible refine' g_and ?_
  | with_reducible refine' g_or ?_
  | with_reducible refine' g_un ?_
  | with_reducible refine' g_U ?_
  | with_reducible refine' g_tup ?_
  | with_reducible refine' g_lst ?_
  | ((with_reducible refine' g_kNew ?h15 ?k15); (case' h15 => wtm_at "ln"); (case' k15 => intro _ _ _ _ _))
  | ((with_reducible refine' g_ixL ?h16 ?a16 ?k16); (case' h16 => wtm_at "sl"); (case' a16 => wtm_at "at"))
  | ((with_reducible refine' g_ixT ?h17 ?a17 ?k17); (case' h17 => wtm_at "st"); (case' a17 => wtm_at "at"))
  | with_reducible refine' g_slice ?_
  | with_reducible refine' g_part ?_
  | with_reducible refine' g_kPart ?_
  | with_reducible refine' g_noPart ?_
  | ((with_reducible refine' g_slL ?h18 ?k18); (case' h18 => wtm_at "sl"); (case' k18 => intro _ _ _ _ _))
  | ((with_reducible refine' g_cat ?h119 ?h219 ?l19 ?k19); (case' h119 => wtm_at "hp"); (case' h219 => wtm_at "hp"); (case' l19 => wtm_at "ln"); (case' k19 => intro _ _ _ _ _))
  | ((with_reducible refine' g_rep ?h120 ?h220 ?h320 ?l20 ?k20); (case' h120 => wtm_at "hp"); (case' h220 => wtm_at "ln"); (case' h320 => wtm_at "ln"); (case' l20 => wtm_at "ln"); (case' k20 => intro _ _ _ _ _))
  | ((with_reducible refine' g_append ?h21 ?l21 ?k21); (case' h21 => wtm_at "hp"); (case' l21 => wtm_at "ln"); (case' k21 => intro _ _ _))
  | ((with_reducible refine' g_kBM ?h22 ?k22); (case' h22 => wtm_at "sl"))
  | ((with_reducible refine' g_kBM0 ?h23 ?k23); (case' h23 => wtm_at "sl"))
  | ((with_reducible refine' g_kL ?h24 ?k24); (case' h24 => wtm_at "sl"))
  | ((with_reducible refine' g_kR1 ?h125 ?h225 ?k25); (case' h125 => wtm_at "ln"); (case' h225 => wtm_at "ln"))
  | ((with_reducible refine' g_kR2 ?h126 ?h226 ?h326 ?h426 ?k26); (case' h126 => wtm_at "ln"); (case' h226 => wtm_at "ln"); (case' h326 => wtm_at "ln"); (case' h426 => wtm_at "ln"))
  | ((with_reducible refine' g_lenL ?h27 ?k27); (case' h27 => wtm_at "sl"))
  | ((with_reducible refine' g_lenT ?h28 ?k28); (case' h28 => wtm_at "st"))
  | ((with_reducible refine' g_listL ?h29 ?k29); (case' h29 => wtm_at "sl"); (case' k29 => intro _ _ _ _ _))
  | ((with_reducible refine' g_tupleL ?h30 ?k30); (case' h30 => wtm_at "sl"); (case' k30 => intro _ _ _ _ _))
  | with_reducible refine' g_max ?_
  | with_reducible refine' g_min ?_
  | with_reducible refine' g_intB ?_
  | with_reducible refine' g_fld ?_
  | with_reducible refine' g_put ?_
  | with_reducible refine' g_dget ?_
  | with_reducible refine' g_isN ?_
  | with_reducible refine' g_notN ?_
  | with_reducible refine' g_ifE ?_
  | with_reducible refine' g_andV ?_
  | with_reducible refine' g_orV ?_
  | with_reducible refine' g_notV ?_
  | with_reducible refine' g_kIf ?_
  | with_reducible refine' g_chain ?_
  | with_reducible refine' g_kCh ?_
  | with_reducible refine' g_sub ?_
  | ((with_reducible refine' g_setI ?h92 ?e92 ?j92 ?k92); (case' h92 => wtm_at "hp"); (case' e92 => first | exact rfl | assumption); (case' j92 => wtm_at "ln"); (case' k92 => intro _ _ _))
  | ((with_reducible refine' g_setL ?h89 ?i89 ?k89); (case' h89 => wtm_at "hp"); (case' i89 => exact ixE rfl (by wtm_at "ln")); (case' k89 => intro _ _ _))
  | ((with_reducible refine' g_gtup ?h93 ?e93 ?k93); (case' h93 => wtm_at "st"); (case' e93 => exact rfl))
  | with_reducible refine' g_gcons ?_
  | with_reducible refine' g_gnil ?_
  | with_reducible refine' g_par ?_
  | with_reducible refine' g_kPar ?_
  | with_reducible refine' g_meth ?_
  | with_reducible refine' g_bm ?_
  | with_reducible refine' g_bm0 ?_
  | with_reducible refine' g_raise ?_
  | with_reducible refine' g_for ?_
  | with_reducible refine' g_iR1 ?_
  | with_reducible refine' g_iR2 ?_
  | with_reducible refine' g_iL ?_
  | with_reducible refine' g_lc ?_
  | with_reducible refine' g_retN ?_
  | with_reducible refine' g_no (b := false) rfl ?_
  | with_reducible refine' g_yes (b := true) rfl ?_)
local macro_rules | `(tactic| wtm_at "go") => `(tactic| repeat (wtm_at "g1"))
local macro_rules | `(tactic| wtm_at "gs") => `(tactic| repeat ((fail_if_success (with_reducible refine' g_ifE ?_)); wtm_at "g1"))
local macro_rules | `(tactic| wtm_at "gi") => `(tactic| repeat ((fail_if_success (with_reducible refine' g_if ?_)); wtm_at "g1"))
local macro_rules | `(tactic| wtm_at "gr") => `(tactic| repeat ((fail_if_success (with_reducible refine' g_ret ?_)); wtm_at "g1"))
local macro_rules | `(tactic| wtm_at "gq") => `(tactic| repeat ((fail_if_success (with_reducible refine' g_asg ?_)); wtm_at "g1"))
/-! ### what a deed is to tell -/
def topChsL (μ : Mt) (z : Cd) : List (Nat × Int) := [(3, bk μ 3 + z.a), (4, bk μ 4 + z.a), (5, bk μ 5 + 1)]
def chsOf (μ : Mt) : Dd → List (Nat × Int)
  | .stamp a => stampChs μ a
  | .back a => backChs μ a
  | .top z => topChsL μ z
  | .up => []
def toldOf (μ : Mt) : Dd → PyData
  | .stamp _ => .int (bk μ 8 + 1)
  | .back a => cdD (mkCd μ.key μ.num (bk μ 6 + 1) a 2)
  | .top z => .int z.a
  | .up => .none
/-- a deed gone through: what it tells, what the meter is then -/
def dueM (μ : Mt) (d : Dd) (cut : Option Nat) : PyData × Mt :=
  match d with
  | .up => if μ.up = true then (.str "Up", μ) else match owed μ with
    | none => (.bool true, { μ with up := true })
    | some s => if cut = some 0 then (.none, μ) else (.bool true, { μ with stamps := μ.stamps ++ [s], up := true })
  | d => match refR μ d with
    | some r => (.str r.word, μ)
    | none => (if (runM μ (chsOf μ d) cut).1 = true then toldOf μ d else .none, (runM μ (chsOf μ d) cut).2)
theorem dueM_ref {μ : Mt} {d : Dd} {cut : Option Nat} {r : Rf} (hd : d ≠ .up) (h : refR μ d = some r) : dueM μ d cut = (.str r.word, μ) := by
  cases d with
  | up => exact absurd rfl hd
  | stamp a => simp only [dueM, h]
  | back a => simp only [dueM, h]
  | top z => simp only [dueM, h]
theorem dueM_run {μ : Mt} {d : Dd} {cut : Option Nat} (hd : d ≠ .up) (h : refR μ d = none) : dueM μ d cut = (if (runM μ (chsOf μ d) cut).1 = true then toldOf μ d else .none, (runM μ (chsOf μ d) cut).2) := by
  cases d with
  | up => exact absurd rfl hd
  | stamp a => simp only [dueM, h]
  | back a => simp only [dueM, h]
  | top z => simp only [dueM, h]
theorem chsOf_ok (μ : Mt) (d : Dd) : Chs (chsOf μ d) := by
  cases d with
  | stamp a => exact stampChs_ok μ a
  | back a => exact backChs_ok μ a
  | top z => intro c hc; simp [chsOf, topChsL] at hc; rcases hc with rfl | rfl | rfl <;> simp
  | up => intro c hc; simp [chsOf] at hc
theorem chsOf_nd (μ : Mt) (d : Dd) : ((chsOf μ d).map (·.1)).Nodup := by
  cases d <;> simp [chsOf, stampChs, backChs, topChsL]
theorem word_ne (r : Rf) : ¬ r.word = "" := by cases r <;> decide +kernel
section
variable {P : Program} {w : World} {K : PySem.W.Frag} {mg : Str → Option Value} {base : Heap}
local macro_rules | `(tactic| wtm_at "g1") => `(tactic| first
  | ((with_reducible refine' g_fOwn (by assumption) ?h201 ?k201); (case' h201 => wtm_at "hp"))
  | ((with_reducible refine' g_fKey (by assumption) ?h202 ?k202); (case' h202 => wtm_at "hp"))
  | ((with_reducible refine' g_fMem (by assumption) ?h203 ?k203); (case' h203 => wtm_at "hp"))
  | ((with_reducible refine' g_fPri (by assumption) ?h204 ?k204); (case' h204 => wtm_at "hp"))
  | ((with_reducible refine' g_fAwa (by assumption) ?h205 ?k205); (case' h205 => wtm_at "hp"))
  | ((with_reducible refine' g_pAwa (by assumption) ?h206 ?k206); (case' h206 => wtm_at "hp"); (case' k206 => intro _ _ _))
  | ((with_reducible refine' g_kMeth ?h207 ?l207 ?k207); (case' h207 => wtm_at "hp"); (case' l207 => exact rfl)))

local macro_rules | `(tactic| wtm_at "g1") => `(tactic| first
  | ((with_reducible refine' g_dNum ?h311 ?k311); (case' h311 => wtm_at "hp"))
  | ((with_reducible refine' g_dKey ?h312 ?k312); (case' h312 => wtm_at "hp"))
  | ((with_reducible refine' g_dCe ?h313 ?k313); (case' h313 => wtm_at "hp"))
  | ((with_reducible refine' g_dSt ?h314 ?k314); (case' h314 => wtm_at "hp"))
  | ((with_reducible refine' g_dUp ?h315 ?k315); (case' h315 => wtm_at "hp"))
  | ((with_reducible refine' g_kDGetS ?h301 ?l301 ?k301); (case' h301 => wtm_at "hp"); (case' l301 => exact rfl))
  | (with_reducible refine' g_dput ?_)
  | (with_reducible refine' g_iK ?_)
  | ((with_reducible refine' g_disp ?k305); (case' k305 => intro _ _ _ _ _))
  | (with_reducible refine' g_pcons ?_)
  | (with_reducible refine' g_pnil ?_)
  | ((with_reducible refine' g_kDisp ?h306 ?e306 ?f306 ?l306 ?k306); (case' h306 => wtm_at "hp"); (case' e306 => exact rfl); (case' f306 => exact rfl); (case' l306 => wtm_at "ln"); (case' k306 => intro _ _ _))
  | ((with_reducible refine' g_pUp ?h302 ?k302); (case' h302 => wtm_at "hp"); (case' k302 => intro _ _ _))
  | ((with_reducible refine' g_pSt ?h303 ?k303); (case' h303 => wtm_at "hp"); (case' k303 => intro _ _ _))
  | ((with_reducible refine' g_pCe ?h304 ?k304); (case' h304 => wtm_at "hp"); (case' k304 => intro _ _ _)))

def spLDue : Sp := fun vs H Q _ => ∃ (q qc qs t : Addr) (μ : Mt) (d : Dd) (cut : Option Nat), vs = [.ref q, .ref t, cutO cut] ∧ LmAt K H q qc qs μ ∧ Any μ.cells ∧ Sm μ ∧ μ.stamps.length < 1000 ∧ DdAt H t d ∧
  ∀ v qs' H', (qs' = qs ∨ H qs' = none) → Mx [q, qc, qs] H H' → LmAt K H' q qc qs' (dueM μ d cut).2 → Dp K H' v (dueM μ d cut).1 → Q v H'
end
end Fk
namespace Fk
open PySem PySem.Spec PyProof.Rows L2
local macro_rules | `(tactic| wtm_at "ln") => `(tactic| first
  | omega
  | (simp only [List.length_cons, List.length_nil, List.length_map, List.length_append, List.length_replicate, List.length_take, List.length_drop, List.length_set]; omega)
  | (with_unfolding_all exact (by decide)))
local macro_rules | `(tactic| wtm_at "ar") => `(tactic| first
  | ((with_reducible show CMulW _ _); (refine' mulS ?_ ?_ <;> omega))
  | ((with_reducible show CDivW _ _); (refine' divS ?_ ?_ <;> omega))
  | ((with_reducible show CPow _ _); exact ⟨by decide, by decide, by decide⟩)
  | (show (0 : Int) < _; omega)
  | (with_unfolding_all exact (by decide)))
local macro_rules | `(tactic| wtm_at "at") => `(tactic| first
  | assumption
  | (refine' cl_atE ?e80 ?h80; (case' e80 => first | exact rfl | assumption); (case' h80 => wtm_at "ln"))
  | exact rfl)
local macro_rules | `(tactic| wtm_at "fr") => `(tactic| first
  | assumption
  | ((with_reducible refine' Mx.free0 ?m99 ?h99); (case' h99 => assumption); (case' m99 => wtm_at "mo")))
local macro_rules | `(tactic| wtm_at "hp") => `(tactic| first
  | assumption
  | ((with_reducible refine' Mx.get0 ?m1 ?h1); (case' m1 => assumption); (case' h1 => wtm_at "hp"))
  | ((with_reducible refine' Mx.get ?m2 ?n2 ?h2); (case' m2 => assumption); (case' n2 => wtm_at "nin"); (case' h2 => wtm_at "hp")))
local macro_rules | `(tactic| wtm_at "sl") => `(tactic| first
  | assumption
  | ((with_reducible refine' Mx.sqL0 ?m96 ?h96); (case' h96 => assumption); (case' m96 => wtm_at "mo"))
  | (refine' SqL.of ?h3; (case' h3 => wtm_at "hp"))
  | ((with_reducible refine' Mx.sqL0 ?m4 ?h4); (case' m4 => assumption); (case' h4 => wtm_at "sl"))
  | ((with_reducible refine' Mx.sqL ?m5 ?n5 ?h5); (case' m5 => assumption); (case' n5 => wtm_at "nin"); (case' h5 => wtm_at "sl")))
local macro_rules | `(tactic| wtm_at "st") => `(tactic| first
  | assumption
  | ((with_reducible refine' Mx.sqT0 ?m97 ?h97); (case' h97 => assumption); (case' m97 => wtm_at "mo"))
  | (refine' SqT.of ?h6; (case' h6 => wtm_at "hp"))
  | ((with_reducible refine' Mx.sqT0 ?m7 ?h7); (case' m7 => assumption); (case' h7 => wtm_at "st"))
  | ((with_reducible refine' Mx.sqT ?m8 ?n8 ?h8); (case' m8 => assumption); (case' n8 => wtm_at "nin"); (case' h8 => wtm_at "st")))
local macro_rules | `(tactic| wtm_at "mx") => `(tactic| first
  | assumption
  | exact Mx.refl
  | ((with_reducible refine' Mx.of0 ?h9); (case' h9 => assumption))
  | ((with_reducible refine' Mx.trans ?h10 ?m10); (case' m10 => first | assumption | ((with_reducible refine' Mx.of0 ?q10); (case' q10 => assumption))); (case' h10 => wtm_at "mx")))
local macro_rules | `(tactic| wtm_at "mo") => `(tactic| first
  | wtm_at "mx"
  | ((with_reducible refine' Mx.own ?m90 ?f90 ?k90); (case' k90 => assumption); (case' f90 => wtm_at "fr"); (case' m90 => wtm_at "mo"))
  | ((with_reducible refine' Mx.trans ?h91 ?m91); (case' m91 => first | assumption | ((with_reducible refine' Mx.of0 ?q91); (case' q91 => assumption))); (case' h91 => wtm_at "mo")))
local macro_rules | `(tactic| wtm_at "ne") => `(tactic| first
  | assumption
  | exact Ne.symm (by assumption)
  | ((with_reducible refine' ne_of_none ?x94 ?y94); (case' y94 => assumption); (case' x94 => wtm_at "hp"))
  | ((with_reducible refine' Ne.symm (ne_of_none ?x95 ?y95)); (case' y95 => assumption); (case' x95 => wtm_at "hp")))
local macro_rules | `(tactic| wtm_at "nin") => `(tactic| first
  | assumption
  | exact List.not_mem_nil
  | ((with_reducible refine' List.not_mem_cons_of_ne_of_not_mem ?h98 ?t98); (case' h98 => wtm_at "ne"); (case' t98 => wtm_at "nin")))
local macro_rules | `(tactic| wtm_at "g1") => `(tactic| first
  | ((with_reducible refine' g_var ?h11 ?k11); (case' h11 => exact rfl))
  | with_reducible refine' g_c ?_
  | with_reducible refine' g_op ?_
  | with_reducible refine' g_I0 ?_
  | ((with_reducible refine' g_I ?c12 ?k12); (case' c12 => wtm_at "ar"))
  | with_reducible refine' g_cons ?_
  | with_reducible refine' g_nil ?_
  | with_reducible refine' g_seq ?_
  | with_reducible refine' g_asg ?_
  | with_reducible refine' g_name ?_
  | with_reducible refine' g_ret ?_
  | with_reducible refine' g_if ?_
  | with_reducible refine' g_test ?_
  | with_reducible refine' g_tB ?_
  | with_reducible refine' g_bl ?_
  | ((with_reducible refine' g_eq ?h13 ?k13); (case' h13 => exact rfl))
  | ((with_reducible refine' g_ne ?h14 ?k14); (case' h14 => exact rfl))
  | with_reducible refine' g_CB ?_
  | with_reducible refine' g_call ?_
  | with_reducible refine' g_drop ?_
  | with_reducible refine' g_next ?_
  | with_reducible refine' g_not ?_
  | with_reducible refine' g_and ?_
  | with_reducible refine' g_or ?_
  | with_reducible refine' g_un ?_
  | with_reducible refine' g_U ?_
  | with_reducible refine' g_tup ?_
  | with_reducible refine' g_lst ?_
  | ((with_reducible refine' g_kNew ?h15 ?k15); (case' h15 => wtm_at "ln"); (case' k15 => intro _ _ _ _ _))
  | ((with_reducible refine' g_ixL ?h16 ?a16 ?k16); (case' h16 => wtm_at "sl"); (case' a16 => wtm_at "at"))
  | ((with_reducible refine' g_ixT ?h17 ?a17 ?k17); (case' h17 => wtm_at "st"); (case' a17 => wtm_at "at"))
  | with_reducible refine' g_slice ?_
  | with_reducible refine' g_part ?_
  | with_reducible refine' g_kPart ?_
  | with_reducible refine' g_noPart ?_
  | ((with_reducible refine' g_slL ?h18 ?k18); (case' h18 => wtm_at "sl"); (case' k18 => intro _ _ _ _ _))
  | ((with_reducible refine' g_cat ?h119 ?h219 ?l19 ?k19); (case' h119 => wtm_at "hp"); (case' h219 => wtm_at "hp"); (case' l19 => wtm_at "ln"); (case' k19 => intro _ _ _ _ _))
  | ((with_reducible refine' g_rep ?h120 ?h220 ?h320 ?l20 ?k20); (case' h120 => wtm_at "hp"); (case' h220 => wtm_at "ln"); (case' h320 => wtm_at "ln"); (case' l20 => wtm_at "ln"); (case' k20 => intro _ _ _ _ _))
  | ((with_reducible refine' g_append ?h21 ?l21 ?k21); (case' h21 => wtm_at "hp"); (case' l21 => wtm_at "ln"); (case' k21 => intro _ _ _))
  | ((with_reducible refine' g_kBM ?h22 ?k22); (case' h22 => wtm_at "sl"))
  | ((with_reducible refine' g_kBM0 ?h23 ?k23); (case' h23 => wtm_at "sl"))
  | ((with_reducible refine' g_kL ?h24 ?k24); (case' h24 => wtm_at "sl"))
  | ((with_reducible refine' g_kR1 ?h125 ?h225 ?k25); (case' h125 => wtm_at "ln"); (case' h225 => wtm_at "ln"))
  | ((with_reducible refine' g_kR2 ?h126 ?h226 ?h326 ?h426 ?k26); (case' h126 => wtm_at "ln"); (case' h226 => wtm_at "ln"); (case' h326 => wtm_at "ln"); (case' h426 => wtm_at "ln"))
  | ((with_reducible refine' g_lenL ?h27 ?k27); (case' h27 => wtm_at "sl"))
  | ((with_reducible refine' g_lenT ?h28 ?k28); (case' h28 => wtm_at "st"))
  | ((with_reducible refine' g_listL ?h29 ?k29); (case' h29 => wtm_at "sl"); (case' k29 => intro _ _ _ _ _))
  | ((with_reducible refine' g_tupleL ?h30 ?k30); (case' h30 => wtm_at "sl"); (case' k30 => intro _ _ _ _ _))
  | with_reducible refine' g_max ?_
  | with_reducible refine' g_min ?_
  | with_reducible refine' g_intB ?_
  | with_reducible refine' g_fld ?_
  | with_reducible refine' g_put ?_
  | with_reducible refine' g_dget ?_
  | with_reducible refine' g_isN ?_
  | with_reducible refine' g_notN ?_
  | with_reducible refine' g_ifE ?_
  | with_reducible refine' g_andV ?_
  | with_reducible refine' g_orV ?_
  | with_reducible refine' g_notV ?_
  | with_reducible refine' g_kIf ?_
  | with_reducible refine' g_chain ?_
  | with_reducible refine' g_kCh ?_
  | with_reducible refine' g_sub ?_
  | ((with_reducible refine' g_setI ?h92 ?e92 ?j92 ?k92); (case' h92 => wtm_at "hp"); (case' e92 => first | exact rfl | assumption); (case' j92 => wtm_at "ln"); (case' k92 => intro _ _ _))
  | ((with_reducible refine' g_setL ?h89 ?i89 ?k89); (case' h89 => wtm_at "hp"); (case' i89 => exact ixE rfl (by wtm_at "ln")); (case' k89 => intro _ _ _))
  | ((with_reducible refine' g_gtup ?h93 ?e93 ?k93); (case' h93 => wtm_at "st"); (case' e93 => exact rfl))
  | with_reducible refine' g_gcons ?_
  | with_reducible refine' g_gnil ?_
  | with_reducible refine' g_par ?_
  | with_reducible refine' g_kPar ?_
  | with_reducible refine' g_meth ?_
  | with_reducible refine' g_bm ?_
  | with_reducible refine' g_bm0 ?_
  | with_reducible refine' g_raise ?_
  | with_reducible refine' g_for ?_
  | with_reducible refine' g_iR1 ?_
  | with_reducible refine' g_iR2 ?_
  | with_reducible refine' g_iL ?_
  | with_reducible refine' g_lc ?_
  | with_reducible refine' g_retN ?_
  | with_reducible refine' g_no (b := false) rfl ?_
  | with_reducible refine' g_yes (b := true) rfl ?_)
local macro_rules | `(tactic| wtm_at "go") => `(tactic| repeat (wtm_at "g1"))
local macro_rules | `(tactic| wtm_at "gs") => `(tactic| repeat ((fail_if_success (with_reducible refine' g_ifE ?_)); wtm_at "g1"))
local macro_rules | `(tactic| wtm_at "gi") => `(tactic| repeat ((fail_if_success (with_reducible refine' g_if ?_)); wtm_at "g1"))
local macro_rules | `(tactic| wtm_at "gr") => `(tactic| repeat ((fail_if_success (with_reducible refine' g_ret ?_)); wtm_at "g1"))
local macro_rules | `(tactic| wtm_at "gq") => `(tactic| repeat ((fail_if_success (with_reducible refine' g_asg ?_)); wtm_at "g1"))
/-! ### the same -/
mutual
/-- no dict within, no long list -/
def okD : PyData → Bool
  | .none | .bool _ | .int _ | .str _ => true
  | .list xs => okDs xs && decide (xs.length ≤ 40000)
  | .tuple xs => okDs xs && decide (xs.length ≤ 40000)
  | .dict _ => false
def okDs : List PyData → Bool
  | [] => true
  | x :: xs => okD x && okDs xs
end
theorem okDs_get : ∀ {xs : List PyData} {i : Nat} {d : PyData}, okDs xs = true → xs[i]? = some d → okD d = true
  | [], _, _, _, e => by simp at e
  | x :: xs, 0, d, h, e => by
    simp [okDs] at h; simp at e; subst e; exact h.1
  | x :: xs, i + 1, d, h, e => by
    simp [okDs] at h
    exact okDs_get h.2 (by simpa using e)
theorem depth_get : ∀ {xs : List PyData} {i : Nat} {d : PyData}, xs[i]? = some d → d.depth ≤ PyData.depthAll xs
  | [], _, _, e => by simp at e
  | x :: xs, 0, d, e => by
    simp at e; subst e
    rw [PyData.depthAll]
    exact Nat.le_max_left _ _
  | x :: xs, i + 1, d, e => by
    rw [PyData.depthAll]
    exact Nat.le_trans (depth_get (by simpa using e)) (Nat.le_max_right _ _)
theorem fm_none {n : Nat} : (List.range n).filterMap (fun _ => (none : Option V)) = [] := by
  induction n with
  | zero => rfl
  | succ n ih => rw [List.range_succ, List.filterMap_append, ih]; rfl
section
variable {P : Program} {w : World} {K : PySem.W.Frag} {mg : Str → Option Value} {base : Heap}
local macro_rules | `(tactic| wtm_at "g1") => `(tactic| first
  | ((with_reducible refine' g_fOwn (by assumption) ?h201 ?k201); (case' h201 => wtm_at "hp"))
  | ((with_reducible refine' g_fKey (by assumption) ?h202 ?k202); (case' h202 => wtm_at "hp"))
  | ((with_reducible refine' g_fMem (by assumption) ?h203 ?k203); (case' h203 => wtm_at "hp"))
  | ((with_reducible refine' g_fPri (by assumption) ?h204 ?k204); (case' h204 => wtm_at "hp"))
  | ((with_reducible refine' g_fAwa (by assumption) ?h205 ?k205); (case' h205 => wtm_at "hp"))
  | ((with_reducible refine' g_pAwa (by assumption) ?h206 ?k206); (case' h206 => wtm_at "hp"); (case' k206 => intro _ _ _))
  | ((with_reducible refine' g_kMeth ?h207 ?l207 ?k207); (case' h207 => wtm_at "hp"); (case' l207 => exact rfl)))

local macro_rules | `(tactic| wtm_at "g1") => `(tactic| first
  | ((with_reducible refine' g_dNum ?h311 ?k311); (case' h311 => wtm_at "hp"))
  | ((with_reducible refine' g_dKey ?h312 ?k312); (case' h312 => wtm_at "hp"))
  | ((with_reducible refine' g_dCe ?h313 ?k313); (case' h313 => wtm_at "hp"))
  | ((with_reducible refine' g_dSt ?h314 ?k314); (case' h314 => wtm_at "hp"))
  | ((with_reducible refine' g_dUp ?h315 ?k315); (case' h315 => wtm_at "hp"))
  | ((with_reducible refine' g_kDGetS ?h301 ?l301 ?k301); (case' h301 => wtm_at "hp"); (case' l301 => exact rfl))
  | (with_reducible refine' g_dput ?_)
  | (with_reducible refine' g_iK ?_)
  | ((with_reducible refine' g_disp ?k305); (case' k305 => intro _ _ _ _ _))
  | (with_reducible refine' g_pcons ?_)
  | (with_reducible refine' g_pnil ?_)
  | ((with_reducible refine' g_kDisp ?h306 ?e306 ?f306 ?l306 ?k306); (case' h306 => wtm_at "hp"); (case' e306 => exact rfl); (case' f306 => exact rfl); (case' l306 => wtm_at "ln"); (case' k306 => intro _ _ _))
  | ((with_reducible refine' g_pUp ?h302 ?k302); (case' h302 => wtm_at "hp"); (case' k302 => intro _ _ _))
  | ((with_reducible refine' g_pSt ?h303 ?k303); (case' h303 => wtm_at "hp"); (case' k303 => intro _ _ _))
  | ((with_reducible refine' g_pCe ?h304 ?k304); (case' h304 => wtm_at "hp"); (case' k304 => intro _ _ _)))

local macro_rules | `(tactic| wtm_at "dp") => `(tactic| first
  | assumption
  | ((with_reducible refine' Dp.mx ?m411 ?h411); (case' h411 => assumption); (case' m411 => wtm_at "mo")))
local macro_rules | `(tactic| wtm_at "kk") => `(tactic| first | exact kk_NoneType_tuple | exact kk_NoneType_list | exact kk_NoneType_str | exact kk_NoneType_bool | exact kk_NoneType_int | exact kk_bool_tuple | exact kk_bool_list | exact kk_bool_str | exact kk_bool_bool | exact kk_bool_int | exact kk_int_tuple | exact kk_int_list | exact kk_int_str | exact kk_int_bool | exact kk_int_int | exact kk_str_tuple | exact kk_str_list | exact kk_str_str | exact kk_str_bool | exact kk_str_int | exact kk_list_tuple | exact kk_list_list | exact kk_list_str | exact kk_list_bool | exact kk_list_int | exact kk_tuple_tuple | exact kk_tuple_list | exact kk_tuple_str | exact kk_tuple_bool | exact kk_tuple_int)
local macro_rules | `(tactic| wtm_at "ty") => `(tactic| first
  | assumption
  | ((with_reducible refine' TyX.mx ?m401 ?h401); (case' h401 => assumption); (case' m401 => wtm_at "mo")))
local macro_rules | `(tactic| wtm_at "g1") => `(tactic| first
  | ((with_reducible refine' g_isi ?t402 ?e402 ?k402); (case' t402 => wtm_at "ty"); (case' e402 => wtm_at "kk"))
  | ((with_reducible refine' g_isiT2 ?h403 ?t403 ?e403 ?f403 ?k403); (case' h403 => wtm_at "hp"); (case' t403 => wtm_at "ty"); (case' e403 => wtm_at "kk"); (case' f403 => wtm_at "kk"))
  | ((with_reducible refine' g_ixQL ?h404 ?a404 ?k404); (case' h404 => wtm_at "sl"); (case' a404 => wtm_at "at"))
  | ((with_reducible refine' g_ixQT ?h405 ?a405 ?k405); (case' h405 => wtm_at "st"); (case' a405 => wtm_at "at")))

def spSame (n : Nat) : Sp := fun vs H Q _ => ∃ (v1 v2 : V) (d : PyData), vs = [v1, v2] ∧ d.depth < n ∧ okD d = true ∧ Dp K H v1 d ∧ Dp K H v2 d ∧ ∀ H', Mx [] H H' → Q (.bl true) H'
theorem c__law_same (T : Tx K mg) : ∀ n : Nat, Cl P w K mg base n "_law_same" (spSame (K := K) n) []
  | 0 => ⟨T.f__law_same.a, T.f__law_same.d, _, [], ⟨fun vs H Q E h => by obtain ⟨_, _, _, _, h, _⟩ := h; omega, fun A outer s H args us vs Q E _ _ _ _ h => by obtain ⟨_, _, _, _, h, _⟩ := h; omega⟩, T.f__law_same.g, T.f__law_same.F.kp, T.f__law_same.b, .nil⟩
  | n + 1 => by
    have ih := c__law_same T n
    refine T.f__law_same.cl sc__law_same (fun vs H Q E h => ?_) (fun cdv A outer s H vs Q E hr h => ?_)
    · obtain ⟨_, _, _, rfl, _⟩ := h
      rfl
    · obtain ⟨v1, v2, d, rfl, hn, hok, d1, d2, q⟩ := h
      have t1 := Dp_ty d1
      have t2 := Dp_ty d2
      refine ⟨_, (pss_cons (ps_if (pt_val (pe_callB (cIsiT K) (by rfl) T.n_isinstance (by decide +kernel) (pa_cons (pv 1) (pa_cons (pe_tup (pa_cons (pe_bltn (v := .ty "tuple") (by rfl) T.n_tuple (by decide +kernel) rfl) (pa_cons (pe_bltn (v := .ty "list") (by rfl) T.n_list (by decide +kernel) rfl) pa_nil))) pa_nil)))) (pss_cons (ps_if (PW.pt (pw_or (pt_not (pt_val (pe_callB (cIsiT K) (by rfl) T.n_isinstance (by decide +kernel) (pa_cons (pv 0) (pa_cons (pe_tup (pa_cons (pe_bltn (v := .ty "tuple") (by rfl) T.n_tuple (by decide +kernel) rfl) (pa_cons (pe_bltn (v := .ty "list") (by rfl) T.n_list (by decide +kernel) rfl) pa_nil))) pa_nil))))) (pw_or1 (pt_cmpR op_ne (pe_callB (cIsi K) (by rfl) T.n_isinstance (by decide +kernel) (pa_cons (pv 0) (pa_cons (pe_bltn (v := .ty "list") (by rfl) T.n_list (by decide +kernel) rfl) pa_nil))) (pe_callB (cIsi K) (by rfl) T.n_isinstance (by decide +kernel) (pa_cons (pv 1) (pa_cons (pe_bltn (v := .ty "list") (by rfl) T.n_list (by decide +kernel) rfl) pa_nil))) (by first | exact nomark _ | rfl))))) (pss_one (ps_ret pe_bl)) pss_nil)
      (pss_cons (ps_if (pt_cmpR op_ne (pe_callB (cLen K) (by rfl) T.n_len (by decide +kernel) (pa_cons (pv 0) pa_nil)) (pe_callB (cLen K) (by rfl) T.n_len (by decide +kernel) (pa_cons (pv 1) pa_nil)) (by first | exact nomark _ | rfl)) (pss_one (ps_ret pe_bl)) pss_nil)
      (pss_one (ps_ret (pe_cmpR (opEqD K hr.units) (pe_lc (own := [("_law_k", 2)]) (g := gName 2) rfl sc__law_same.nd (pi_range1 rfl T.n_range (pa_cons (pe_callB (cLen K) (by rfl) T.n_len (by decide +kernel) (pa_cons (pv 1) pa_nil)) pa_nil)) (blkOk_by (own := [("_law_k", 2)]) (N := N__law_same) (sc := defScope s__law_same) (by decide +kernel)) (fun _ _ _ _ _ => pg_name (i := 2) sc__law_same.nd rfl (by first | exact Or.inl rfl | exact Or.inr rfl)) (fun _ _ _ _ _ => (pts_one (pt_not (pt_val (q_call ih hr (Nat.le_refl _) rfl passL (pa_cons (pe_ix (ixQ K) (pv 0) (pv 2) (fun _ _ => rfl)) (pa_cons (pe_ix (ixQ K) (pv 1) (pv 2) (fun _ _ => rfl)) pa_nil))))))) (fun _ _ _ _ _ => (pv 2))) (pe_lst pa_nil) (by first | exact nomark _ | rfl)))))) pss_nil)
      (pss_cons (ps_if (pt_cmp (pc_isN (pv 1)) rfl) (pss_one (ps_ret (pe_cmp (pc_isN (pv 0)) rfl))) pss_nil)
      (pss_cons (ps_if (pt_val (pe_callB (cIsi K) (by rfl) T.n_isinstance (by decide +kernel) (pa_cons (pv 1) (pa_cons (pe_bltn (v := .ty "str") (by rfl) T.n_str (by decide +kernel) rfl) pa_nil)))) (pss_one (ps_ret (pe_and (pe_callB (cIsi K) (by rfl) T.n_isinstance (by decide +kernel) (pa_cons (pv 0) (pa_cons (pe_bltn (v := .ty "str") (by rfl) T.n_str (by decide +kernel) rfl) pa_nil))) (pe_one (pe_cmpR op_eq (pv 0) (pv 1) (by first | exact nomark _ | rfl)))))) pss_nil)
      (pss_cons (ps_if (PW.pt (pw_or (pt_val (pe_callB (cIsi K) (by rfl) T.n_isinstance (by decide +kernel) (pa_cons (pv 1) (pa_cons (pe_bltn (v := .ty "bool") (by rfl) T.n_bool (by decide +kernel) rfl) pa_nil)))) (pw_or1 (pt_val (pe_callB (cIsi K) (by rfl) T.n_isinstance (by decide +kernel) (pa_cons (pv 0) (pa_cons (pe_bltn (v := .ty "bool") (by rfl) T.n_bool (by decide +kernel) rfl) pa_nil))))))) (pss_one (ps_ret (pe_and (pe_callB (cIsi K) (by rfl) T.n_isinstance (by decide +kernel) (pa_cons (pv 1) (pa_cons (pe_bltn (v := .ty "bool") (by rfl) T.n_bool (by decide +kernel) rfl) pa_nil))) (pe_and (pe_callB (cIsi K) (by rfl) T.n_isinstance (by decide +kernel) (pa_cons (pv 0) (pa_cons (pe_bltn (v := .ty "bool") (by rfl) T.n_bool (by decide +kernel) rfl) pa_nil))) (pe_one (pe_cmpR op_eq (pv 0) (pv 1) (by first | exact nomark _ | rfl))))))) pss_nil)
      (pss_one (ps_ret (pe_and (pe_callB (cIsi K) (by rfl) T.n_isinstance (by decide +kernel) (pa_cons (pv 0) (pa_cons (pe_bltn (v := .ty "int") (by rfl) T.n_int (by decide +kernel) rfl) pa_nil))) (pe_one (pe_cmpR op_eq (pv 0) (pv 1) (by first | exact nomark _ | rfl)))))))))), ?_⟩
      cases d with
      | dict kvs => cases hok
      | none =>
        cases d1
        cases d2
        wtm_at "go"
        refine g_no rfl ?_
        wtm_at "go"
        refine g_yes (by simp) ?_
        wtm_at "go"
        exact q _ (by wtm_at "mo")
      | bool b =>
        cases d1
        cases d2
        wtm_at "go"
        refine g_no rfl ?_
        wtm_at "go"
        refine g_no (by simp) ?_
        wtm_at "go"
        rw [show decide (V.bl b = V.bl b) = true by simp]
        exact q _ (by wtm_at "mo")
      | int i =>
        cases d1
        cases d2
        wtm_at "go"
        refine g_no rfl ?_
        wtm_at "go"
        refine g_no (by simp) ?_
        wtm_at "go"
        rw [show decide (V.int i = V.int i) = true by simp]
        exact q _ (by wtm_at "mo")
      | str z =>
        cases d1
        cases d2
        wtm_at "go"
        refine g_no rfl ?_
        wtm_at "go"
        refine g_no (by simp) ?_
        wtm_at "go"
        rw [show decide (V.str z = V.str z) = true by simp]
        exact q _ (by wtm_at "mo")
      | list xs =>
        cases d1 with
        | lst h1 a1 => cases d2 with
          | lst h2 a2 =>
            rename_i p1 vs1 p2 vs2
            have l1 := a1.len
            have l2 := a2.len
            have hok2 : okDs xs = true ∧ xs.length ≤ 40000 := by simpa [okD] using hok
            have lv : vs2.length ≤ 40000 := by omega
            have hdep : PyData.depthAll xs < n := by
              rw [PyData.depth] at hn
              omega
            wtm_at "go"
            refine g_yes rfl ?_
            wtm_at "go"
            refine g_no rfl ?_
            wtm_at "go"
            refine g_no (by simp) ?_
            wtm_at "go"
            refine g_no (by simp; omega) ?_
            wtm_at "go"
            refine g_lcR (fun _ => none) (by intro x; rfl) (by simp; omega) (fun i H' QN hi m hQ => ?_) (fun Dl H' hD m eD => ?_)
            · have hi2 : i < vs2.length := by simpa using hi
              obtain ⟨u1, hu1⟩ : ∃ u, vs1[i]? = some u := ⟨_, List.getElem?_eq_getElem (by omega)⟩
              obtain ⟨u2, hu2⟩ : ∃ u, vs2[i]? = some u := ⟨_, List.getElem?_eq_getElem (by omega)⟩
              obtain ⟨e1, he1, hd1⟩ := a1.get' hu1
              obtain ⟨e2, he2, hd2⟩ := a2.get' hu2
              rw [he1] at he2
              cases he2
              have ei : (0 : Int) + (i : Int) = (i : Int) := by omega
              have g1 : atI vs1 ((0 : Int) + (i : Int)) = some u1 := by rw [ei]; exact atI_nat hu1
              have g2 : atI vs2 ((0 : Int) + (i : Int)) = some u2 := by rw [ei]; exact atI_nat hu2
              wtm_at "go"
              refine ⟨u1, u2, e1, rfl, Nat.lt_of_le_of_lt (depth_get he1) hdep, okDs_get hok2.1 he1, by wtm_at "dp", by wtm_at "dp", fun H3 m3 => ?_⟩
              wtm_at "go"
              refine g_no rfl ?_
              exact hQ none H3 (by wtm_at "mo") rfl
            · rw [fm_none] at eD
              wtm_at "go"
              refine g_eqI (xs := []) (ys := []) (by wtm_at "sl") (by wtm_at "sl") ?_
              exact q _ (by wtm_at "mo")
      | tuple xs =>
        cases d1 with
        | tup h1 a1 => cases d2 with
          | tup h2 a2 =>
            rename_i p1 vs1 p2 vs2
            have l1 := a1.len
            have l2 := a2.len
            have hok2 : okDs xs = true ∧ xs.length ≤ 40000 := by simpa [okD] using hok
            have lv : vs2.length ≤ 40000 := by omega
            have hdep : PyData.depthAll xs < n := by
              rw [PyData.depth] at hn
              omega
            wtm_at "go"
            refine g_yes rfl ?_
            wtm_at "go"
            refine g_no rfl ?_
            wtm_at "go"
            refine g_no (by simp) ?_
            wtm_at "go"
            refine g_no (by simp; omega) ?_
            wtm_at "go"
            refine g_lcR (fun _ => none) (by intro x; rfl) (by simp; omega) (fun i H' QN hi m hQ => ?_) (fun Dl H' hD m eD => ?_)
            · have hi2 : i < vs2.length := by simpa using hi
              obtain ⟨u1, hu1⟩ : ∃ u, vs1[i]? = some u := ⟨_, List.getElem?_eq_getElem (by omega)⟩
              obtain ⟨u2, hu2⟩ : ∃ u, vs2[i]? = some u := ⟨_, List.getElem?_eq_getElem (by omega)⟩
              obtain ⟨e1, he1, hd1⟩ := a1.get' hu1
              obtain ⟨e2, he2, hd2⟩ := a2.get' hu2
              rw [he1] at he2
              cases he2
              have ei : (0 : Int) + (i : Int) = (i : Int) := by omega
              have g1 : atI vs1 ((0 : Int) + (i : Int)) = some u1 := by rw [ei]; exact atI_nat hu1
              have g2 : atI vs2 ((0 : Int) + (i : Int)) = some u2 := by rw [ei]; exact atI_nat hu2
              wtm_at "go"
              refine ⟨u1, u2, e1, rfl, Nat.lt_of_le_of_lt (depth_get he1) hdep, okDs_get hok2.1 he1, by wtm_at "dp", by wtm_at "dp", fun H3 m3 => ?_⟩
              wtm_at "go"
              refine g_no rfl ?_
              exact hQ none H3 (by wtm_at "mo") rfl
            · rw [fm_none] at eD
              wtm_at "go"
              refine g_eqI (xs := []) (ys := []) (by wtm_at "sl") (by wtm_at "sl") ?_
              exact q _ (by wtm_at "mo")
end
end Fk
namespace Fk
open PySem PySem.Spec PyProof.Rows L2
local macro_rules | `(tactic| wtm_at "ln") => `(tactic| first
  | omega
  | (simp only [List.length_cons, List.length_nil, List.length_map, List.length_append, List.length_replicate, List.length_take, List.length_drop, List.length_set]; omega)
  | (with_unfolding_all exact (by decide)))
local macro_rules | `(tactic| wtm_at "ar") => `(tactic| first
  | ((with_reducible show CMulW _ _); (refine' mulS ?_ ?_ <;> omega))
  | ((with_reducible show CDivW _ _); (refine' divS ?_ ?_ <;> omega))
  | ((with_reducible show CPow _ _); exact ⟨by decide, by decide, by decide⟩)
  | (show (0 : Int) < _; omega)
  | (with_unfolding_all exact (by decide)))
local macro_rules | `(tactic| wtm_at "at") => `(tactic| first
  | assumption
  | (refine' cl_atE ?e80 ?h80; (case' e80 => first | exact rfl | assumption); (case' h80 => wtm_at "ln"))
  | exact rfl)
local macro_rules | `(tactic| wtm_at "fr") => `(tactic| first
  | assumption
  | ((with_reducible refine' Mx.free0 ?m99 ?h99); (case' h99 => assumption); (case' m99 => wtm_at "mo")))
local macro_rules | `(tactic| wtm_at "hp") => `(tactic| first
  | assumption
  | ((with_reducible refine' Mx.get0 ?m1 ?h1); (case' m1 => assumption); (case' h1 => wtm_at "hp"))
  | ((with_reducible refine' Mx.get ?m2 ?n2 ?h2); (case' m2 => assumption); (case' n2 => wtm_at "nin"); (case' h2 => wtm_at "hp")))
local macro_rules | `(tactic| wtm_at "sl") => `(tactic| first
  | assumption
  | ((with_reducible refine' Mx.sqL0 ?m96 ?h96); (case' h96 => assumption); (case' m96 => wtm_at "mo"))
  | (refine' SqL.of ?h3; (case' h3 => wtm_at "hp"))
  | ((with_reducible refine' Mx.sqL0 ?m4 ?h4); (case' m4 => assumption); (case' h4 => wtm_at "sl"))
  | ((with_reducible refine' Mx.sqL ?m5 ?n5 ?h5); (case' m5 => assumption); (case' n5 => wtm_at "nin"); (case' h5 => wtm_at "sl")))
local macro_rules | `(tactic| wtm_at "st") => `(tactic| first
  | assumption
  | ((with_reducible refine' Mx.sqT0 ?m97 ?h97); (case' h97 => assumption); (case' m97 => wtm_at "mo"))
  | (refine' SqT.of ?h6; (case' h6 => wtm_at "hp"))
  | ((with_reducible refine' Mx.sqT0 ?m7 ?h7); (case' m7 => assumption); (case' h7 => wtm_at "st"))
  | ((with_reducible refine' Mx.sqT ?m8 ?n8 ?h8); (case' m8 => assumption); (case' n8 => wtm_at "nin"); (case' h8 => wtm_at "st")))
local macro_rules | `(tactic| wtm_at "mx") => `(tactic| first
  | assumption
  | exact Mx.refl
  | ((with_reducible refine' Mx.of0 ?h9); (case' h9 => assumption))
  | ((with_reducible refine' Mx.trans ?h10 ?m10); (case' m10 => first | assumption | ((with_reducible refine' Mx.of0 ?q10); (case' q10 => assumption))); (case' h10 => wtm_at "mx")))
local macro_rules | `(tactic| wtm_at "mo") => `(tactic| first
  | wtm_at "mx"
  | ((with_reducible refine' Mx.own ?m90 ?f90 ?k90); (case' k90 => assumption); (case' f90 => wtm_at "fr"); (case' m90 => wtm_at "mo"))
  | ((with_reducible refine' Mx.trans ?h91 ?m91); (case' m91 => first | assumption | ((with_reducible refine' Mx.of0 ?q91); (case' q91 => assumption))); (case' h91 => wtm_at "mo")))
local macro_rules | `(tactic| wtm_at "ne") => `(tactic| first
  | assumption
  | exact Ne.symm (by assumption)
  | ((with_reducible refine' ne_of_none ?x94 ?y94); (case' y94 => assumption); (case' x94 => wtm_at "hp"))
  | ((with_reducible refine' Ne.symm (ne_of_none ?x95 ?y95)); (case' y95 => assumption); (case' x95 => wtm_at "hp")))
local macro_rules | `(tactic| wtm_at "nin") => `(tactic| first
  | assumption
  | exact List.not_mem_nil
  | ((with_reducible refine' List.not_mem_cons_of_ne_of_not_mem ?h98 ?t98); (case' h98 => wtm_at "ne"); (case' t98 => wtm_at "nin")))
local macro_rules | `(tactic| wtm_at "g1") => `(tactic| first
  | ((with_reducible refine' g_var ?h11 ?k11); (case' h11 => exact rfl))
  | with_reducible refine' g_c ?_
  | with_reducible refine' g_op ?_
  | with_reducible refine' g_I0 ?_
  | ((with_reducible refine' g_I ?c12 ?k12); (case' c12 => wtm_at "ar"))
  | with_reducible refine' g_cons ?_
  | with_reducible refine' g_nil ?_
  | with_reducible refine' g_seq ?_
  | with_reducible refine' g_asg ?_
  | with_reducible refine' g_name ?_
  | with_reducible refine' g_ret ?_
  | with_reducible refine' g_if ?_
  | with_reducible refine' g_test ?_
  | with_reducible refine' g_tB ?_
  | with_reducible refine' g_bl ?_
  | ((with_reducible refine' g_eq ?h13 ?k13); (case' h13 => exact rfl))
  | ((with_reducible refine' g_ne ?h14 ?k14); (case' h14 => exact rfl))
  | with_reducible refine' g_CB ?_
  | with_reducible refine' g_call ?_
  | with_reducible refine' g_drop ?_
  | with_reducible refine' g_next ?_
  | with_reducible refine' g_not ?_
  | with_reducible refine' g_and ?_
  | with_reducible refine' g_or ?_
  | with_reducible refine' g_un ?_
  | with_reducible refine' g_U ?_
  | with_reducible refine' g_tup ?_
  | with_reducible refine' g_lst ?_
  | ((with_reducible refine' g_kNew ?h15 ?k15); (case' h15 => wtm_at "ln"); (case' k15 => intro _ _ _ _ _))
  | ((with_reducible refine' g_ixL ?h16 ?a16 ?k16); (case' h16 => wtm_at "sl"); (case' a16 => wtm_at "at"))
  | ((with_reducible refine' g_ixT ?h17 ?a17 ?k17); (case' h17 => wtm_at "st"); (case' a17 => wtm_at "at"))
  | with_reducible refine' g_slice ?_
  | with_reducible refine' g_part ?_
  | with_reducible refine' g_kPart ?_
  | with_reducible refine' g_noPart ?_
  | ((with_reducible refine' g_slL ?h18 ?k18); (case' h18 => wtm_at "sl"); (case' k18 => intro _ _ _ _ _))
  | ((with_reducible refine' g_cat ?h119 ?h219 ?l19 ?k19); (case' h119 => wtm_at "hp"); (case' h219 => wtm_at "hp"); (case' l19 => wtm_at "ln"); (case' k19 => intro _ _ _ _ _))
  | ((with_reducible refine' g_rep ?h120 ?h220 ?h320 ?l20 ?k20); (case' h120 => wtm_at "hp"); (case' h220 => wtm_at "ln"); (case' h320 => wtm_at "ln"); (case' l20 => wtm_at "ln"); (case' k20 => intro _ _ _ _ _))
  | ((with_reducible refine' g_append ?h21 ?l21 ?k21); (case' h21 => wtm_at "hp"); (case' l21 => wtm_at "ln"); (case' k21 => intro _ _ _))
  | ((with_reducible refine' g_kBM ?h22 ?k22); (case' h22 => wtm_at "sl"))
  | ((with_reducible refine' g_kBM0 ?h23 ?k23); (case' h23 => wtm_at "sl"))
  | ((with_reducible refine' g_kL ?h24 ?k24); (case' h24 => wtm_at "sl"))
  | ((with_reducible refine' g_kR1 ?h125 ?h225 ?k25); (case' h125 => wtm_at "ln"); (case' h225 => wtm_at "ln"))
  | ((with_reducible refine' g_kR2 ?h126 ?h226 ?h326 ?h426 ?k26); (case' h126 => wtm_at "ln"); (case' h226 => wtm_at "ln"); (case' h326 => wtm_at "ln"); (case' h426 => wtm_at "ln"))
  | ((with_reducible refine' g_lenL ?h27 ?k27); (case' h27 => wtm_at "sl"))
  | ((with_reducible refine' g_lenT ?h28 ?k28); (case' h28 => wtm_at "st"))
  | ((with_reducible refine' g_listL ?h29 ?k29); (case' h29 => wtm_at "sl"); (case' k29 => intro _ _ _ _ _))
  | ((with_reducible refine' g_tupleL ?h30 ?k30); (case' h30 => wtm_at "sl"); (case' k30 => intro _ _ _ _ _))
  | with_reducible refine' g_max ?_
  | with_reducible refine' g_min ?_
  | with_reducible refine' g_intB ?_
  | with_reducible refine' g_fld ?_
  | with_reducible refine' g_put ?_
  | with_reducible refine' g_dget ?_
  | with_reducible refine' g_isN ?_
  | with_reducible refine' g_notN ?_
  | with_reducible refine' g_ifE ?_
  | with_reducible refine' g_andV ?_
  | with_reducible refine' g_orV ?_
  | with_reducible refine' g_notV ?_
  | with_reducible refine' g_kIf ?_
  | with_reducible refine' g_chain ?_
  | with_reducible refine' g_kCh ?_
  | with_reducible refine' g_sub ?_
  | ((with_reducible refine' g_setI ?h92 ?e92 ?j92 ?k92); (case' h92 => wtm_at "hp"); (case' e92 => first | exact rfl | assumption); (case' j92 => wtm_at "ln"); (case' k92 => intro _ _ _))
  | ((with_reducible refine' g_setL ?h89 ?i89 ?k89); (case' h89 => wtm_at "hp"); (case' i89 => exact ixE rfl (by wtm_at "ln")); (case' k89 => intro _ _ _))
  | ((with_reducible refine' g_gtup ?h93 ?e93 ?k93); (case' h93 => wtm_at "st"); (case' e93 => exact rfl))
  | with_reducible refine' g_gcons ?_
  | with_reducible refine' g_gnil ?_
  | with_reducible refine' g_par ?_
  | with_reducible refine' g_kPar ?_
  | with_reducible refine' g_meth ?_
  | with_reducible refine' g_bm ?_
  | with_reducible refine' g_bm0 ?_
  | with_reducible refine' g_raise ?_
  | with_reducible refine' g_for ?_
  | with_reducible refine' g_iR1 ?_
  | with_reducible refine' g_iR2 ?_
  | with_reducible refine' g_iL ?_
  | with_reducible refine' g_lc ?_
  | with_reducible refine' g_retN ?_
  | with_reducible refine' g_no (b := false) rfl ?_
  | with_reducible refine' g_yes (b := true) rfl ?_)
local macro_rules | `(tactic| wtm_at "go") => `(tactic| repeat (wtm_at "g1"))
local macro_rules | `(tactic| wtm_at "gs") => `(tactic| repeat ((fail_if_success (with_reducible refine' g_ifE ?_)); wtm_at "g1"))
local macro_rules | `(tactic| wtm_at "gi") => `(tactic| repeat ((fail_if_success (with_reducible refine' g_if ?_)); wtm_at "g1"))
local macro_rules | `(tactic| wtm_at "gr") => `(tactic| repeat ((fail_if_success (with_reducible refine' g_ret ?_)); wtm_at "g1"))
local macro_rules | `(tactic| wtm_at "gq") => `(tactic| repeat ((fail_if_success (with_reducible refine' g_asg ?_)); wtm_at "g1"))
/-! ### what something tells, or the word of its refusal -/
theorem Takes.len {X : Cx} {W : WX} (tk : Takes X W) : Takes X (fun cls d σ H => σ.length = X.N.length → W cls d σ H) := fun u s' ⟨a, B, sI, pins, σ, H, cls, d, e, I, nb, up, sky, na, os, ag, w⟩ =>
  tk u s' ⟨a, B, sI, pins, σ, H, cls, d, e, I, nb, up, sky, na, os, ag, w I.len⟩
section
variable {P : Program} {w : World} {K : PySem.W.Frag} {mg : Str → Option Value} {base : Heap}
def TKind (T : Tx K mg) : (XK → Hp → VK → Prop) → Hp → VK → Prop := fun tl H Q =>
  tl (fun cls d H' => ∃ r : Rf, cls = .ref (r.at T) ∧ d = none ∧ ∀ H'', Mx [] H' H'' → Q (.str r.word) H'') H (fun v H' => Q v H')
theorem Rf.kit (T : Tx K mg) : ∀ r r' : Rf, PySem.W.kitOne K (.ref (r.at T)) (.ref (r'.at T)) = some (decide (r = r'))
  | .down, .down => T.kt_Down_Down
  | .down, .up => T.kt_Down_Up
  | .down, .amount => T.kt_Down_BadAmount
  | .down, .code => T.kt_Down_BadCode
  | .down, .short => T.kt_Down_Short
  | .down, .bank => T.kt_Down_NoBank
  | .down, .number => T.kt_Down_BadNumber
  | .down, .meter => T.kt_Down_NoMeter
  | .up, .down => T.kt_Up_Down
  | .up, .up => T.kt_Up_Up
  | .up, .amount => T.kt_Up_BadAmount
  | .up, .code => T.kt_Up_BadCode
  | .up, .short => T.kt_Up_Short
  | .up, .bank => T.kt_Up_NoBank
  | .up, .number => T.kt_Up_BadNumber
  | .up, .meter => T.kt_Up_NoMeter
  | .amount, .down => T.kt_BadAmount_Down
  | .amount, .up => T.kt_BadAmount_Up
  | .amount, .amount => T.kt_BadAmount_BadAmount
  | .amount, .code => T.kt_BadAmount_BadCode
  | .amount, .short => T.kt_BadAmount_Short
  | .amount, .bank => T.kt_BadAmount_NoBank
  | .amount, .number => T.kt_BadAmount_BadNumber
  | .amount, .meter => T.kt_BadAmount_NoMeter
  | .code, .down => T.kt_BadCode_Down
  | .code, .up => T.kt_BadCode_Up
  | .code, .amount => T.kt_BadCode_BadAmount
  | .code, .code => T.kt_BadCode_BadCode
  | .code, .short => T.kt_BadCode_Short
  | .code, .bank => T.kt_BadCode_NoBank
  | .code, .number => T.kt_BadCode_BadNumber
  | .code, .meter => T.kt_BadCode_NoMeter
  | .short, .down => T.kt_Short_Down
  | .short, .up => T.kt_Short_Up
  | .short, .amount => T.kt_Short_BadAmount
  | .short, .code => T.kt_Short_BadCode
  | .short, .short => T.kt_Short_Short
  | .short, .bank => T.kt_Short_NoBank
  | .short, .number => T.kt_Short_BadNumber
  | .short, .meter => T.kt_Short_NoMeter
  | .bank, .down => T.kt_NoBank_Down
  | .bank, .up => T.kt_NoBank_Up
  | .bank, .amount => T.kt_NoBank_BadAmount
  | .bank, .code => T.kt_NoBank_BadCode
  | .bank, .short => T.kt_NoBank_Short
  | .bank, .bank => T.kt_NoBank_NoBank
  | .bank, .number => T.kt_NoBank_BadNumber
  | .bank, .meter => T.kt_NoBank_NoMeter
  | .number, .down => T.kt_BadNumber_Down
  | .number, .up => T.kt_BadNumber_Up
  | .number, .amount => T.kt_BadNumber_BadAmount
  | .number, .code => T.kt_BadNumber_BadCode
  | .number, .short => T.kt_BadNumber_Short
  | .number, .bank => T.kt_BadNumber_NoBank
  | .number, .number => T.kt_BadNumber_BadNumber
  | .number, .meter => T.kt_BadNumber_NoMeter
  | .meter, .down => T.kt_NoMeter_Down
  | .meter, .up => T.kt_NoMeter_Up
  | .meter, .amount => T.kt_NoMeter_BadAmount
  | .meter, .code => T.kt_NoMeter_BadCode
  | .meter, .short => T.kt_NoMeter_Short
  | .meter, .bank => T.kt_NoMeter_NoBank
  | .meter, .number => T.kt_NoMeter_BadNumber
  | .meter, .meter => T.kt_NoMeter_NoMeter
theorem Rf.exi (T : Tx K mg) (r : Rf) : ExI K (r.at T) T.E_FrankError := by
  cases r
  · exact T.i_Down
  · exact T.i_Up
  · exact T.i_BadAmount
  · exact T.i_BadCode
  · exact T.i_Short
  · exact T.i_NoBank
  · exact T.i_BadNumber
  · exact T.i_NoMeter
theorem g_isR (T : Tx K mg) {r r' : Rf} {a : Addr} {H : Hp} {Q : VK} (k : Q (.bl (decide (r = r'))) H) : rIsX K (.ref (r.at T)) none a [.ref a, .ref (r'.at T)] H Q := g_isX (r.exi T).c (r.kit T r') k
def Rf.bits (r : Rf) : List Bool := [decide (r = .bank), decide (r = .number), decide (r = .amount), decide (r = .code), decide (r = .short), decide (r = .down), decide (r = .up), decide (r = .meter)]
def Rf.pos : Rf → Nat
  | .bank => 0
  | .number => 1
  | .amount => 2
  | .code => 3
  | .short => 4
  | .down => 5
  | .up => 6
  | .meter => 7
theorem kind_gives {X : Cx} (T : Tx X.K X.mg) {cdv : Value} {q : Str} (hr : Room 2 X.A) : LamX.GivesTo X N__law_kind "_law_kind" (defScope s__law_kind) T.f__law_kind.a cdv (defBody s__law_kind) "_law_work" q (TKind T) := by
  intro f c' s H Q tl act hc h
  have hu65 : (X.A.deeper (envOfC "_law_kind" (defScope s__law_kind) s.heap.objs.size T.f__law_kind.a cdv)).units + 65 < cLine := Room.units65 (hr.deeper _)
  have hgl : Gl (cxOf C8.CX0 X.prog X.w X.K X.mg X.base N__law_kind "_law_kind" (defScope s__law_kind) T.f__law_kind.a cdv X.A X.stack s H C8.E0).nox "FrankError" := rfl
  refine ⟨_, pss_one (ps_try_as (X := (cxOf C8.CX0 X.prog X.w X.K X.mg X.base N__law_kind "_law_kind" (defScope s__law_kind) T.f__law_kind.a cdv X.A X.stack s H C8.E0).nox) (c := .ref T.E_FrankError) (i := 1)
      (tb := fun W D σ H => ∃ Ech : XK, (∀ cls d σ' H', Ech cls d H' → σ'.length = 4 → W cls d σ' H') ∧ σ[0]? = some (some (.ref f)) ∧ H c' = some (LamX.CodeO c' q) ∧ tl Ech H D.rt)
      rfl rfl sc__law_kind.nd rfl rfl ⟨hgl, rfl, .inl T.x_FrankError.g⟩ LamX.takes0 (fun W pn xe tk _ => ?_) (fun a oe cls d pn hz hf => (pss_cons (ps_set (i := 2) sc__law_kind.nd rfl (Or.inl rfl) (pe_lst (pa_cons (pe_callB (cIsX X.K hz hf) (by rfl) T.n_isinstance (by decide +kernel) (pa_cons (pv 1) (pa_cons (pe_glob (v := .ref T.E_NoBank) rfl T.x_NoBank.g rfl) pa_nil))) (pa_cons (pe_callB (cIsX X.K hz hf) (by rfl) T.n_isinstance (by decide +kernel) (pa_cons (pv 1) (pa_cons (pe_glob (v := .ref T.E_BadNumber) rfl T.x_BadNumber.g rfl) pa_nil))) (pa_cons (pe_callB (cIsX X.K hz hf) (by rfl) T.n_isinstance (by decide +kernel) (pa_cons (pv 1) (pa_cons (pe_glob (v := .ref T.E_BadAmount) rfl T.x_BadAmount.g rfl) pa_nil))) (pa_cons (pe_callB (cIsX X.K hz hf) (by rfl) T.n_isinstance (by decide +kernel) (pa_cons (pv 1) (pa_cons (pe_glob (v := .ref T.E_BadCode) rfl T.x_BadCode.g rfl) pa_nil))) pa_nil))))))
      (pss_cons (ps_set (i := 2) sc__law_kind.nd rfl (Or.inl rfl) (pe_op op_cat (pv 2) (pe_lst (pa_cons (pe_callB (cIsX X.K hz hf) (by rfl) T.n_isinstance (by decide +kernel) (pa_cons (pv 1) (pa_cons (pe_glob (v := .ref T.E_Short) rfl T.x_Short.g rfl) pa_nil))) (pa_cons (pe_callB (cIsX X.K hz hf) (by rfl) T.n_isinstance (by decide +kernel) (pa_cons (pv 1) (pa_cons (pe_glob (v := .ref T.E_Down) rfl T.x_Down.g rfl) pa_nil))) (pa_cons (pe_callB (cIsX X.K hz hf) (by rfl) T.n_isinstance (by decide +kernel) (pa_cons (pv 1) (pa_cons (pe_glob (v := .ref T.E_Up) rfl T.x_Up.g rfl) pa_nil))) (pa_cons (pe_callB (cIsX X.K hz hf) (by rfl) T.n_isinstance (by decide +kernel) (pa_cons (pv 1) (pa_cons (pe_glob (v := .ref T.E_NoMeter) rfl T.x_NoMeter.g rfl) pa_nil))) pa_nil)))))))
      (pss_cons (ps_set (i := 3) sc__law_kind.nd rfl (Or.inl rfl) (pe_lst (pa_cons pe_str (pa_cons pe_str (pa_cons pe_str (pa_cons pe_str (pa_cons pe_str (pa_cons pe_str (pa_cons pe_str (pa_cons pe_str pa_nil))))))))))
      (pss_cons (ps_if (PW.pt (pw_or (pt_cmpR op_ne (bmK X.K PySem.F.plainAttrs_list PySem.F.slot_list_count PySem.F.type_list_count (mtCountF X.K) (pv 2) (pa_cons pe_bl pa_nil)) pe_int (by first | exact nomark _ | rfl)) (pw_or1 (pt_not (pt_val (pe_callB (cIsX X.K hz hf) (by rfl) T.n_isinstance (by decide +kernel) (pa_cons (pv 1) (pa_cons (pe_bltn (v := .ty "ValueError") (by rfl) T.n_ValueError (by decide +kernel) rfl) pa_nil)))))))) (pss_one (ps_ret pe_str)) pss_nil)
      (pss_one (ps_ret (pe_ix (ixL X.K) (pv 3) (bmK X.K PySem.F.plainAttrs_list PySem.F.slot_list_index PySem.F.type_list_index (mtIndexD X.K hu65) (pv 2) (pa_cons pe_bl pa_nil)) (fun _ _ => rfl)))))))))), ?_⟩
  · refine ⟨fun pins s' σ H' D I h' => ?_⟩
    obtain ⟨Ech, hW, h1, h2, h3⟩ := h'
    exact (pss_one (ps_ret (act _ pn xe Ech _ _ (Takes.len tk) hW))).run pins s' σ H' D I ⟨h1, h2, h3⟩
  · refine ⟨fun cls d H' => ∃ r : Rf, cls = .ref (r.at T) ∧ d = none ∧ ∀ H'', Mx [] H' H'' → Q (.str r.word) H'', fun cls d σ' H' ⟨r, e1, e2, k⟩ hl => ?_, rfl, hc, h⟩
    subst e1 e2
    refine ⟨true, (r.exi T).exm T.x_FrankError T.hd_FrankError, fun _ a na => ?_, fun z => by cases z⟩
    match σ', hl with
    | [x0, x1, x2, x3], _ =>
      wtm_at "go"
      refine g_isR T (r' := .bank) ?_
      wtm_at "go"
      refine g_isR T (r' := .number) ?_
      wtm_at "go"
      refine g_isR T (r' := .amount) ?_
      wtm_at "go"
      refine g_isR T (r' := .code) ?_
      wtm_at "go"
      rename_i l1 H1 n1 m1 e1
      refine g_isR T (r' := .short) ?_
      wtm_at "go"
      refine g_isR T (r' := .down) ?_
      wtm_at "go"
      refine g_isR T (r' := .up) ?_
      wtm_at "go"
      refine g_isR T (r' := .meter) ?_
      wtm_at "go"
      rename_i l2 H2 n2 m2 e2 l3 H3 n3 m3 e3 l4 H4 n4 m4 e4
      have e3' : H4 l3 = some (.lst (r.bits.map V.bl)) := m4.get0 e3
      have mm : Mx [] H' H4 := ((m1.trans m2).trans m3).trans m4
      refine g_cntB (SqL.of e3') (n := 1) (by cases r <;> rfl) ?_
      wtm_at "go"
      refine g_no (by decide) ?_
      wtm_at "go"
      refine g_isXt (r.exi T).c (r.exi T).ve ?_
      wtm_at "go"
      refine g_no (by decide) ?_
      wtm_at "go"
      refine g_ixB (j := r.pos) (SqL.of e3') (by cases r <;> rfl) (fun m hm => ?_) ?_
      · have : r.pos < 8 := by cases r <;> decide
        match m, hm with
        | 0, hm => revert hm; cases r <;> decide
        | 1, hm => revert hm; cases r <;> decide
        | 2, hm => revert hm; cases r <;> decide
        | 3, hm => revert hm; cases r <;> decide
        | 4, hm => revert hm; cases r <;> decide
        | 5, hm => revert hm; cases r <;> decide
        | 6, hm => revert hm; cases r <;> decide
        | m + 7, hm => omega
      · refine g_ixL (v := .str r.word) (SqL.of e4) (by cases r <;> exact rfl) ?_
        exact k _ mm
end
end Fk
namespace Fk
open PySem PySem.Spec PyProof.Rows L2
local macro_rules | `(tactic| wtm_at "ln") => `(tactic| first
  | omega
  | (simp only [List.length_cons, List.length_nil, List.length_map, List.length_append, List.length_replicate, List.length_take, List.length_drop, List.length_set]; omega)
  | (with_unfolding_all exact (by decide)))
local macro_rules | `(tactic| wtm_at "ar") => `(tactic| first
  | ((with_reducible show CMulW _ _); (refine' mulS ?_ ?_ <;> omega))
  | ((with_reducible show CDivW _ _); (refine' divS ?_ ?_ <;> omega))
  | ((with_reducible show CPow _ _); exact ⟨by decide, by decide, by decide⟩)
  | (show (0 : Int) < _; omega)
  | (with_unfolding_all exact (by decide)))
local macro_rules | `(tactic| wtm_at "at") => `(tactic| first
  | assumption
  | (refine' cl_atE ?e80 ?h80; (case' e80 => first | exact rfl | assumption); (case' h80 => wtm_at "ln"))
  | exact rfl)
local macro_rules | `(tactic| wtm_at "fr") => `(tactic| first
  | assumption
  | ((with_reducible refine' Mx.free0 ?m99 ?h99); (case' h99 => assumption); (case' m99 => wtm_at "mo")))
local macro_rules | `(tactic| wtm_at "hp") => `(tactic| first
  | assumption
  | ((with_reducible refine' Mx.get0 ?m1 ?h1); (case' m1 => assumption); (case' h1 => wtm_at "hp"))
  | ((with_reducible refine' Mx.get ?m2 ?n2 ?h2); (case' m2 => assumption); (case' n2 => wtm_at "nin"); (case' h2 => wtm_at "hp")))
local macro_rules | `(tactic| wtm_at "sl") => `(tactic| first
  | assumption
  | ((with_reducible refine' Mx.sqL0 ?m96 ?h96); (case' h96 => assumption); (case' m96 => wtm_at "mo"))
  | (refine' SqL.of ?h3; (case' h3 => wtm_at "hp"))
  | ((with_reducible refine' Mx.sqL0 ?m4 ?h4); (case' m4 => assumption); (case' h4 => wtm_at "sl"))
  | ((with_reducible refine' Mx.sqL ?m5 ?n5 ?h5); (case' m5 => assumption); (case' n5 => wtm_at "nin"); (case' h5 => wtm_at "sl")))
local macro_rules | `(tactic| wtm_at "st") => `(tactic| first
  | assumption
  | ((with_reducible refine' Mx.sqT0 ?m97 ?h97); (case' h97 => assumption); (case' m97 => wtm_at "mo"))
  | (refine' SqT.of ?h6; (case' h6 => wtm_at "hp"))
  | ((with_reducible refine' Mx.sqT0 ?m7 ?h7); (case' m7 => assumption); (case' h7 => wtm_at "st"))
  | ((with_reducible refine' Mx.sqT ?m8 ?n8 ?h8); (case' m8 => assumption); (case' n8 => wtm_at "nin"); (case' h8 => wtm_at "st")))
local macro_rules | `(tactic| wtm_at "mx") => `(tactic| first
  | assumption
  | exact Mx.refl
  | ((with_reducible refine' Mx.of0 ?h9); (case' h9 => assumption))
  | ((with_reducible refine' Mx.trans ?h10 ?m10); (case' m10 => first | assumption | ((with_reducible refine' Mx.of0 ?q10); (case' q10 => assumption))); (case' h10 => wtm_at "mx")))
local macro_rules | `(tactic| wtm_at "mo") => `(tactic| first
  | wtm_at "mx"
  | ((with_reducible refine' Mx.own ?m90 ?f90 ?k90); (case' k90 => assumption); (case' f90 => wtm_at "fr"); (case' m90 => wtm_at "mo"))
  | ((with_reducible refine' Mx.trans ?h91 ?m91); (case' m91 => first | assumption | ((with_reducible refine' Mx.of0 ?q91); (case' q91 => assumption))); (case' h91 => wtm_at "mo")))
local macro_rules | `(tactic| wtm_at "ne") => `(tactic| first
  | assumption
  | exact Ne.symm (by assumption)
  | ((with_reducible refine' ne_of_none ?x94 ?y94); (case' y94 => assumption); (case' x94 => wtm_at "hp"))
  | ((with_reducible refine' Ne.symm (ne_of_none ?x95 ?y95)); (case' y95 => assumption); (case' x95 => wtm_at "hp")))
local macro_rules | `(tactic| wtm_at "nin") => `(tactic| first
  | assumption
  | exact List.not_mem_nil
  | ((with_reducible refine' List.not_mem_cons_of_ne_of_not_mem ?h98 ?t98); (case' h98 => wtm_at "ne"); (case' t98 => wtm_at "nin")))
local macro_rules | `(tactic| wtm_at "g1") => `(tactic| first
  | ((with_reducible refine' g_var ?h11 ?k11); (case' h11 => exact rfl))
  | with_reducible refine' g_c ?_
  | with_reducible refine' g_op ?_
  | with_reducible refine' g_I0 ?_
  | ((with_reducible refine' g_I ?c12 ?k12); (case' c12 => wtm_at "ar"))
  | with_reducible refine' g_cons ?_
  | with_reducible refine' g_nil ?_
  | with_reducible refine' g_seq ?_
  | with_reducible refine' g_asg ?_
  | with_reducible refine' g_name ?_
  | with_reducible refine' g_ret ?_
  | with_reducible refine' g_if ?_
  | with_reducible refine' g_test ?_
  | with_reducible refine' g_tB ?_
  | with_reducible refine' g_bl ?_
  | ((with_reducible refine' g_eq ?h13 ?k13); (case' h13 => exact rfl))
  | ((with_reducible refine' g_ne ?h14 ?k14); (case' h14 => exact rfl))
  | with_reducible refine' g_CB ?_
  | with_reducible refine' g_call ?_
  | with_reducible refine' g_drop ?_
  | with_reducible refine' g_next ?_
  | with_reducible refine' g_not ?_
  | with_reducible refine' g_and ?_
  | with_reducible refine' g_or ?_
  | with_reducible refine' g_un ?_
  | with_reducible refine' g_U ?_
  | with_reducible refine' g_tup ?_
  | with_reducible refine' g_lst ?_
  | ((with_reducible refine' g_kNew ?h15 ?k15); (case' h15 => wtm_at "ln"); (case' k15 => intro _ _ _ _ _))
  | ((with_reducible refine' g_ixL ?h16 ?a16 ?k16); (case' h16 => wtm_at "sl"); (case' a16 => wtm_at "at"))
  | ((with_reducible refine' g_ixT ?h17 ?a17 ?k17); (case' h17 => wtm_at "st"); (case' a17 => wtm_at "at"))
  | with_reducible refine' g_slice ?_
  | with_reducible refine' g_part ?_
  | with_reducible refine' g_kPart ?_
  | with_reducible refine' g_noPart ?_
  | ((with_reducible refine' g_slL ?h18 ?k18); (case' h18 => wtm_at "sl"); (case' k18 => intro _ _ _ _ _))
  | ((with_reducible refine' g_cat ?h119 ?h219 ?l19 ?k19); (case' h119 => wtm_at "hp"); (case' h219 => wtm_at "hp"); (case' l19 => wtm_at "ln"); (case' k19 => intro _ _ _ _ _))
  | ((with_reducible refine' g_rep ?h120 ?h220 ?h320 ?l20 ?k20); (case' h120 => wtm_at "hp"); (case' h220 => wtm_at "ln"); (case' h320 => wtm_at "ln"); (case' l20 => wtm_at "ln"); (case' k20 => intro _ _ _ _ _))
  | ((with_reducible refine' g_append ?h21 ?l21 ?k21); (case' h21 => wtm_at "hp"); (case' l21 => wtm_at "ln"); (case' k21 => intro _ _ _))
  | ((with_reducible refine' g_kBM ?h22 ?k22); (case' h22 => wtm_at "sl"))
  | ((with_reducible refine' g_kBM0 ?h23 ?k23); (case' h23 => wtm_at "sl"))
  | ((with_reducible refine' g_kL ?h24 ?k24); (case' h24 => wtm_at "sl"))
  | ((with_reducible refine' g_kR1 ?h125 ?h225 ?k25); (case' h125 => wtm_at "ln"); (case' h225 => wtm_at "ln"))
  | ((with_reducible refine' g_kR2 ?h126 ?h226 ?h326 ?h426 ?k26); (case' h126 => wtm_at "ln"); (case' h226 => wtm_at "ln"); (case' h326 => wtm_at "ln"); (case' h426 => wtm_at "ln"))
  | ((with_reducible refine' g_lenL ?h27 ?k27); (case' h27 => wtm_at "sl"))
  | ((with_reducible refine' g_lenT ?h28 ?k28); (case' h28 => wtm_at "st"))
  | ((with_reducible refine' g_listL ?h29 ?k29); (case' h29 => wtm_at "sl"); (case' k29 => intro _ _ _ _ _))
  | ((with_reducible refine' g_tupleL ?h30 ?k30); (case' h30 => wtm_at "sl"); (case' k30 => intro _ _ _ _ _))
  | with_reducible refine' g_max ?_
  | with_reducible refine' g_min ?_
  | with_reducible refine' g_intB ?_
  | with_reducible refine' g_fld ?_
  | with_reducible refine' g_put ?_
  | with_reducible refine' g_dget ?_
  | with_reducible refine' g_isN ?_
  | with_reducible refine' g_notN ?_
  | with_reducible refine' g_ifE ?_
  | with_reducible refine' g_andV ?_
  | with_reducible refine' g_orV ?_
  | with_reducible refine' g_notV ?_
  | with_reducible refine' g_kIf ?_
  | with_reducible refine' g_chain ?_
  | with_reducible refine' g_kCh ?_
  | with_reducible refine' g_sub ?_
  | ((with_reducible refine' g_setI ?h92 ?e92 ?j92 ?k92); (case' h92 => wtm_at "hp"); (case' e92 => first | exact rfl | assumption); (case' j92 => wtm_at "ln"); (case' k92 => intro _ _ _))
  | ((with_reducible refine' g_setL ?h89 ?i89 ?k89); (case' h89 => wtm_at "hp"); (case' i89 => exact ixE rfl (by wtm_at "ln")); (case' k89 => intro _ _ _))
  | ((with_reducible refine' g_gtup ?h93 ?e93 ?k93); (case' h93 => wtm_at "st"); (case' e93 => exact rfl))
  | with_reducible refine' g_gcons ?_
  | with_reducible refine' g_gnil ?_
  | with_reducible refine' g_par ?_
  | with_reducible refine' g_kPar ?_
  | with_reducible refine' g_meth ?_
  | with_reducible refine' g_bm ?_
  | with_reducible refine' g_bm0 ?_
  | with_reducible refine' g_raise ?_
  | with_reducible refine' g_for ?_
  | with_reducible refine' g_iR1 ?_
  | with_reducible refine' g_iR2 ?_
  | with_reducible refine' g_iL ?_
  | with_reducible refine' g_lc ?_
  | with_reducible refine' g_retN ?_
  | with_reducible refine' g_no (b := false) rfl ?_
  | with_reducible refine' g_yes (b := true) rfl ?_)
local macro_rules | `(tactic| wtm_at "go") => `(tactic| repeat (wtm_at "g1"))
local macro_rules | `(tactic| wtm_at "gs") => `(tactic| repeat ((fail_if_success (with_reducible refine' g_ifE ?_)); wtm_at "g1"))
local macro_rules | `(tactic| wtm_at "gi") => `(tactic| repeat ((fail_if_success (with_reducible refine' g_if ?_)); wtm_at "g1"))
local macro_rules | `(tactic| wtm_at "gr") => `(tactic| repeat ((fail_if_success (with_reducible refine' g_ret ?_)); wtm_at "g1"))
local macro_rules | `(tactic| wtm_at "gq") => `(tactic| repeat ((fail_if_success (with_reducible refine' g_asg ?_)); wtm_at "g1"))
/-! ### the law -/
section
variable {K : PySem.W.Frag} {H H1 H0 : Hp}
theorem extn_at (e : LamX.ExtN H H1) {a : Addr} {o : HO} (h : H a = some o) (n : ∀ ps, o ≠ .tbl ps) : H1 a = some o := e a o h n
theorem extn_sqL (e : LamX.ExtN H H1) {a : Addr} {xs : List V} (h : SqL K H a xs) : SqL K H1 a xs := by
  rcases h with (h | ⟨o, h⟩) | h
  · exact .inl (.inl (e _ _ h fun _ z => nomatch z))
  · exact .inl (.inr ⟨o, e _ _ h fun _ z => nomatch z⟩)
  · exact .inr h
theorem extn_sqT (e : LamX.ExtN H H1) {a : Addr} {xs : List V} (h : SqT K H a xs) : SqT K H1 a xs := by
  rcases h with (h | ⟨o, h⟩) | h
  · exact .inl (.inl (e _ _ h fun _ z => nomatch z))
  · exact .inl (.inr ⟨o, e _ _ h fun _ z => nomatch z⟩)
  · exact .inr h
mutual
theorem extn_dp (e : LamX.ExtN H H1) : ∀ {v : V} {d : PyData}, Dp K H v d → Dp K H1 v d
  | _, _, .non => .non
  | _, _, .bl b => .bl b
  | _, _, .int i => .int i
  | _, _, .str x => .str x
  | _, _, .lst h a => .lst (extn_sqL e h) (extn_dpA e a)
  | _, _, .tup h a => .tup (extn_sqT e h) (extn_dpA e a)
theorem extn_dpA (e : LamX.ExtN H H1) : ∀ {vs : List V} {ds : List PyData}, DpAll K H vs ds → DpAll K H1 vs ds
  | _, _, .nil => .nil
  | _, _, .cons h r => .cons (extn_dp e h) (extn_dpA e r)
end
theorem MetAt.extn {C p pm pp : Addr} {μ : Mt} (M : MetAt K C H p pm pp μ) (e : LamX.ExtN H H1) : MetAt K C H1 p pm pp μ := by
  obtain ⟨⟨dx, ob⟩, me, ⟨vs, pr, dp⟩, ne⟩ := M
  exact ⟨⟨dx, e _ _ ob fun _ z => nomatch z⟩, e _ _ me (fun _ z => nomatch z), ⟨vs, e _ _ pr (fun _ z => nomatch z), extn_dpA e dp⟩, ne⟩
theorem LmAt.extn {q qc qs : Addr} {μ : Mt} (M : LmAt K H q qc qs μ) (e : LamX.ExtN H H1) : LmAt K H1 q qc qs μ := by
  obtain ⟨ob, me, ⟨vs, pr, dp⟩, ne⟩ := M
  exact ⟨e _ _ ob (fun _ z => nomatch z), e _ _ me (fun _ z => nomatch z), ⟨vs, e _ _ pr (fun _ z => nomatch z), extn_dpA e dp⟩, ne⟩
theorem DdAt.extn {t : Addr} {d : Dd} (h : DdAt H t d) (e : LamX.ExtN H H1) : DdAt H1 t d := by
  cases d with
  | stamp a => exact e _ _ h fun _ z => nomatch z
  | back a => exact e _ _ h fun _ z => nomatch z
  | up => exact e _ _ h fun _ z => nomatch z
  | top z => obtain ⟨c, h1, h2⟩ := h; exact ⟨c, e _ _ h1 (fun _ z => nomatch z), e _ _ h2 fun _ z => nomatch z⟩
/-- a heap without tables -/
def NoTbl (H0 : Hp) : Prop := ∀ b o, H0 b = some o → ∀ ps, o ≠ .tbl ps
theorem StAt.extn {r : Addr} (s : StAt K H0 H r) (n : NoTbl H0) (e : LamX.ExtN H H1) : StAt K H0 H1 r := by
  obtain ⟨⟨a, ns, i, m, l, h, q⟩, fr, mx⟩ := s
  exact ⟨⟨a, ns, i, m, l, e _ _ h (fun _ z => nomatch z), q⟩, fr, fun b o hb _ => e b o (mx.get0 hb) (n b o hb)⟩
/-- drawing asks for the script alone -/
theorem StAt.cut {r : Addr} (s : StAt K H H1 r) : ∃ H0, (∀ x, H x = none → H0 x = none) ∧ NoTbl H0 ∧ StAt K H0 H1 r := by
  obtain ⟨⟨a, ns, i, m, l, h, hS, q⟩, fr, mx⟩ := s
  have hnt : (∃ o, H a = some o ∧ (∀ ps, o ≠ .tbl ps) ∧ SqL K (fun b => if b = a then some o else none) a (ns.map V.int)) ∨ SqL K (fun _ => none) a (ns.map V.int) := by
    rcases hS with (h | ⟨o, h⟩) | h
    · exact .inl ⟨_, h, (fun _ z => nomatch z), .inl (.inl (if_pos rfl))⟩
    · exact .inl ⟨_, h, (fun _ z => nomatch z), .inl (.inr ⟨o, if_pos rfl⟩)⟩
    · exact .inr (.inr h)
  rcases hnt with ⟨o, ho, no, hS'⟩ | hS'
  · refine ⟨fun b => if b = a then some o else none, fun x hx => if_neg (fun z => by rw [z, ho] at hx; cases hx), fun b o' hb => ?_, ⟨a, ns, i, m, l, h, hS', q⟩, if_neg (fun z => by rw [z, ho] at fr; cases fr), fun b o' hb _ => ?_⟩
    · have hb : (if b = a then some o else none) = some o' := hb
      split at hb
      · cases hb; exact no
      · cases hb
    · have hb : (if b = a then some o else none) = some o' := hb
      split at hb
      · rename_i z
        cases hb
        rw [z]
        exact mx.get0 ho
      · cases hb
  · exact ⟨fun _ => none, fun _ _ => rfl, fun _ _ z => (nomatch z), ⟨a, ns, i, m, l, h, hS', q⟩, rfl, fun _ _ z => (nomatch z)⟩
/-- what is written is no table, no code object -/
def NoX (H : Hp) (S : List Addr) : Prop := ∀ x ∈ S, ∀ o, H x = some o → (∀ ps, o ≠ .tbl ps) ∧ ∀ f, o ≠ .ext f
theorem Tabs.mx {T : List (Addr × Str)} {S : List Addr} (t : LamX.Tabs T H) (m : Mx S H H1) (n : NoX H S) : LamX.Tabs T H1 := fun p hp => by
  obtain ⟨ps, h1, h2, h3⟩ := t p hp
  refine ⟨ps, m _ _ h1 fun z => (n _ z _ h1).1 ps rfl, h2, fun pos cv hc => ?_⟩
  obtain ⟨c, e1, e2⟩ := h3 pos cv hc
  exact ⟨c, e1, m _ _ e2 fun z => (n _ z _ e2).2 _ rfl⟩
theorem Tabs.mx0 {T : List (Addr × Str)} (t : LamX.Tabs T H) (m : Mx [] H H1) : LamX.Tabs T H1 := Tabs.mx t m fun _ z => by simp at z
theorem noX_lst {a : Addr} {xs : List V} (h : H a = some (.lst xs)) : ∀ o, H a = some o → (∀ ps, o ≠ .tbl ps) ∧ ∀ f, o ≠ .ext f := fun o e => by
  rw [h] at e; cases e; exact ⟨(fun _ z => nomatch z), (fun _ z => nomatch z)⟩
theorem noX_dK {a : Addr} {xs : List (Key × V)} (h : H a = some (.dK xs)) : ∀ o, H a = some o → (∀ ps, o ≠ .tbl ps) ∧ ∀ f, o ≠ .ext f := fun o e => by
  rw [h] at e; cases e; exact ⟨(fun _ z => nomatch z), (fun _ z => nomatch z)⟩
theorem noX_ins {a C dx : Addr} {fs : List (Str × V)} (h : H a = some (.ins C dx fs)) : ∀ o, H a = some o → (∀ ps, o ≠ .tbl ps) ∧ ∀ f, o ≠ .ext f := fun o e => by
  rw [h] at e; cases e; exact ⟨(fun _ z => nomatch z), (fun _ z => nomatch z)⟩
theorem StAt.nx {r : Addr} (s : StAt K H0 H r) : NoX H [r] := by
  obtain ⟨_, _, _, _, _, h, _⟩ := s.ex
  intro x hx
  simp at hx
  subst hx
  exact noX_lst h
theorem LmAt.nx {q qc qs : Addr} {μ : Mt} (M : LmAt K H q qc qs μ) : NoX H [q, qc, qs] := by
  obtain ⟨ob, ce, ⟨vs, st, dp⟩, ne⟩ := M
  intro x hx
  simp only [List.mem_cons, List.not_mem_nil, or_false] at hx
  rcases hx with rfl | rfl | rfl
  · exact noX_dK ob
  · exact noX_lst ce
  · exact noX_lst st
theorem MetAt.nx {C p pm pp : Addr} {μ : Mt} (M : MetAt K C H p pm pp μ) : NoX H [p, pm, pp] := by
  obtain ⟨⟨dx, ob⟩, me, ⟨vs, pr, dp⟩, ne⟩ := M
  intro x hx
  simp only [List.mem_cons, List.not_mem_nil, or_false] at hx
  rcases hx with rfl | rfl | rfl
  · exact noX_ins ob
  · exact noX_lst me
  · exact noX_lst pr
theorem LmAt.nt {q qc qs : Addr} {μ : Mt} (M : LmAt K H q qc qs μ) : NoTup H [q, qc, qs] := by
  obtain ⟨ob, ce, ⟨vs, st, dp⟩, ne⟩ := M
  exact (noTupD ob).cons ((noTup1 ce).cons (noTup1 st))
theorem MetAt.nt {C p pm pp : Addr} {μ : Mt} (M : MetAt K C H p pm pp μ) : NoTup H [p, pm, pp] := by
  obtain ⟨⟨dx, ob⟩, me, ⟨vs, pr, dp⟩, ne⟩ := M
  exact (noTupI ob).cons ((noTup1 me).cons (noTup1 pr))
theorem due_frz (μ : Mt) (d : Dd) (cut : Option Nat) : frz (dueM μ d cut).1 = true ∧ okD (dueM μ d cut).1 = true ∧ (dueM μ d cut).1.depth < 8 := by
  have hc : ∀ z : Cd, frz (cdD z) = true ∧ okD (cdD z) = true ∧ (cdD z).depth < 8 := fun z => ⟨rfl, rfl, by simp [cdD, PyData.depth, PyData.depthAll]⟩
  have h0 : frz PyData.none = true ∧ okD PyData.none = true ∧ PyData.none.depth < 8 := by decide +kernel
  have hb : ∀ b, frz (PyData.bool b) = true ∧ okD (PyData.bool b) = true ∧ (PyData.bool b).depth < 8 := by decide +kernel
  have hi : ∀ i, frz (PyData.int i) = true ∧ okD (PyData.int i) = true ∧ (PyData.int i).depth < 8 := fun i => ⟨rfl, rfl, by simp [PyData.depth]⟩
  have hs : ∀ s, frz (PyData.str s) = true ∧ okD (PyData.str s) = true ∧ (PyData.str s).depth < 8 := fun i => ⟨rfl, rfl, by simp [PyData.depth]⟩
  by_cases hd : d = .up
  · subst hd
    by_cases hu : μ.up = true
    · have e : dueM μ .up cut = (.str "Up", μ) := if_pos hu
      rw [e]
      exact hs _
    · cases eo : owed μ with
      | none =>
        have e : dueM μ .up cut = (.bool true, { μ with up := true }) := by simp [dueM, hu, eo]
        rw [e]
        exact hb _
      | some s =>
        by_cases h0' : cut = some 0
        · have e : dueM μ .up cut = (.none, μ) := by simp [dueM, hu, eo, h0']
          rw [e]
          exact h0
        · have e : dueM μ .up cut = (.bool true, { μ with stamps := μ.stamps ++ [s], up := true }) := by simp [dueM, hu, eo, h0']
          rw [e]
          exact hb _
  · cases hr : refR μ d with
    | some r => rw [dueM_ref hd hr]; exact hs _
    | none =>
      rw [dueM_run hd hr]
      show frz (if _ then _ else _) = true ∧ okD (if _ then _ else _) = true ∧ (if _ then _ else _ : PyData).depth < 8
      split
      · cases d with
        | stamp a => exact hi _
        | back a => exact hc _
        | top z => exact hi _
        | up => exact h0
      · exact h0
end
/-- _law_kind(lambda: ..) -/
theorem q_kind {X : Cx} {K : PySem.W.Frag} {mg : Str → Option Value} (T : Tx K mg) {c Pt : Addr} {k : Nat} {params : Arguments} {body : Expr} {scope : Scope} {t : XK → TE} {p lpos pos : Pos} (TB : LamX.TabB X.base X.mg c Pt) (hcode : X.env.code = .ref c) (hr : Room (k + 2) X.A)
    (L : LamX.LamS X.env.scope scope) (hdef : defaultsOf params X.env = ([], [])) (hbind : ∀ (q : Str) (cl : List (Str × Addr)) (pm cv ctv : Value), bindArgs (PySem.W.kla_fn "<lambda>" q params body scope cl pm cv ctv) ⟨[], []⟩ = pure [])
    (hbody : ∀ (A : Around) (outer : List Env) (s : Shared) (H : Hp) (E : XK) (f c' : Addr), Room k (A.deeper (LamX.lamEnv X scope s.heap.objs.size f c')) → PE (LamX.lamCx X A outer s H E scope f c') body (t E)) (hg : Gl X "_law_kind") (hK : X.K = K := by rfl) (hm : X.mg = mg := by rfl) :
    PE X (.Call (.Name "_law_kind" p) [.Lambda params body scope lpos] [] pos) (LamX.tLam [(Pt, X.env.qual ++ "<lambda>")] (TKind T) t) := by
  subst hK hm
  obtain ⟨oc, od, kV, doc, pm, an, cdv, ct, osl, hd, lk, hcd⟩ := T.f__law_kind.F.ex
  have hb := T.f__law_kind.b
  rw [hd] at lk hb
  exact LamX.pe_lamcall (k := k) (Ng := N__law_kind) hg T.f__law_kind.g T.f__law_kind.F.kp lk hcd hb sc__law_kind rfl (.inl rfl) (kind_gives T (hr.mono (by omega))) TB hcode (List.mem_singleton.mpr rfl) (fun p hp _ => by rw [List.mem_singleton.mp hp]) hr L hdef hbind hbody
end Fk
namespace Fk
open PySem PySem.Spec PyProof.Rows L2
local macro_rules | `(tactic| wtm_at "ln") => `(tactic| first
  | omega
  | (simp only [List.length_cons, List.length_nil, List.length_map, List.length_append, List.length_replicate, List.length_take, List.length_drop, List.length_set]; omega)
  | (with_unfolding_all exact (by decide)))
local macro_rules | `(tactic| wtm_at "ar") => `(tactic| first
  | ((with_reducible show CMulW _ _); (refine' mulS ?_ ?_ <;> omega))
  | ((with_reducible show CDivW _ _); (refine' divS ?_ ?_ <;> omega))
  | ((with_reducible show CPow _ _); exact ⟨by decide, by decide, by decide⟩)
  | (show (0 : Int) < _; omega)
  | (with_unfolding_all exact (by decide)))
local macro_rules | `(tactic| wtm_at "at") => `(tactic| first
  | assumption
  | (refine' cl_atE ?e80 ?h80; (case' e80 => first | exact rfl | assumption); (case' h80 => wtm_at "ln"))
  | exact rfl)
local macro_rules | `(tactic| wtm_at "fr") => `(tactic| first
  | assumption
  | ((with_reducible refine' Mx.free0 ?m99 ?h99); (case' h99 => assumption); (case' m99 => wtm_at "mo")))
local macro_rules | `(tactic| wtm_at "hp") => `(tactic| first
  | assumption
  | ((with_reducible refine' Mx.get0 ?m1 ?h1); (case' m1 => assumption); (case' h1 => wtm_at "hp"))
  | ((with_reducible refine' Mx.get ?m2 ?n2 ?h2); (case' m2 => assumption); (case' n2 => wtm_at "nin"); (case' h2 => wtm_at "hp")))
local macro_rules | `(tactic| wtm_at "sl") => `(tactic| first
  | assumption
  | ((with_reducible refine' Mx.sqL0 ?m96 ?h96); (case' h96 => assumption); (case' m96 => wtm_at "mo"))
  | (refine' SqL.of ?h3; (case' h3 => wtm_at "hp"))
  | ((with_reducible refine' Mx.sqL0 ?m4 ?h4); (case' m4 => assumption); (case' h4 => wtm_at "sl"))
  | ((with_reducible refine' Mx.sqL ?m5 ?n5 ?h5); (case' m5 => assumption); (case' n5 => wtm_at "nin"); (case' h5 => wtm_at "sl")))
local macro_rules | `(tactic| wtm_at "st") => `(tactic| first
  | assumption
  | ((with_reducible refine' Mx.sqT0 ?m97 ?h97); (case' h97 => assumption); (case' m97 => wtm_at "mo"))
  | (refine' SqT.of ?h6; (case' h6 => wtm_at "hp"))
  | ((with_reducible refine' Mx.sqT0 ?m7 ?h7); (case' m7 => assumption); (case' h7 => wtm_at "st"))
  | ((with_reducible refine' Mx.sqT ?m8 ?n8 ?h8); (case' m8 => assumption); (case' n8 => wtm_at "nin"); (case' h8 => wtm_at "st")))
local macro_rules | `(tactic| wtm_at "mx") => `(tactic| first
  | assumption
  | exact Mx.refl
  | ((with_reducible refine' Mx.of0 ?h9); (case' h9 => assumption))
  | ((with_reducible refine' Mx.trans ?h10 ?m10); (case' m10 => first | assumption | ((with_reducible refine' Mx.of0 ?q10); (case' q10 => assumption))); (case' h10 => wtm_at "mx")))
local macro_rules | `(tactic| wtm_at "mo") => `(tactic| first
  | wtm_at "mx"
  | ((with_reducible refine' Mx.own ?m90 ?f90 ?k90); (case' k90 => assumption); (case' f90 => wtm_at "fr"); (case' m90 => wtm_at "mo"))
  | ((with_reducible refine' Mx.trans ?h91 ?m91); (case' m91 => first | assumption | ((with_reducible refine' Mx.of0 ?q91); (case' q91 => assumption))); (case' h91 => wtm_at "mo")))
local macro_rules | `(tactic| wtm_at "ne") => `(tactic| first
  | assumption
  | exact Ne.symm (by assumption)
  | ((with_reducible refine' ne_of_none ?x94 ?y94); (case' y94 => assumption); (case' x94 => wtm_at "hp"))
  | ((with_reducible refine' Ne.symm (ne_of_none ?x95 ?y95)); (case' y95 => assumption); (case' x95 => wtm_at "hp")))
local macro_rules | `(tactic| wtm_at "nin") => `(tactic| first
  | assumption
  | exact List.not_mem_nil
  | ((with_reducible refine' List.not_mem_cons_of_ne_of_not_mem ?h98 ?t98); (case' h98 => wtm_at "ne"); (case' t98 => wtm_at "nin")))
local macro_rules | `(tactic| wtm_at "g1") => `(tactic| first
  | ((with_reducible refine' g_var ?h11 ?k11); (case' h11 => exact rfl))
  | with_reducible refine' g_c ?_
  | with_reducible refine' g_op ?_
  | with_reducible refine' g_I0 ?_
  | ((with_reducible refine' g_I ?c12 ?k12); (case' c12 => wtm_at "ar"))
  | with_reducible refine' g_cons ?_
  | with_reducible refine' g_nil ?_
  | with_reducible refine' g_seq ?_
  | with_reducible refine' g_asg ?_
  | with_reducible refine' g_name ?_
  | with_reducible refine' g_ret ?_
  | with_reducible refine' g_if ?_
  | with_reducible refine' g_test ?_
  | with_reducible refine' g_tB ?_
  | with_reducible refine' g_bl ?_
  | ((with_reducible refine' g_eq ?h13 ?k13); (case' h13 => exact rfl))
  | ((with_reducible refine' g_ne ?h14 ?k14); (case' h14 => exact rfl))
  | with_reducible refine' g_CB ?_
  | with_reducible refine' g_call ?_
  | with_reducible refine' g_drop ?_
  | with_reducible refine' g_next ?_
  | with_reducible refine' g_not ?_
  | with_reducible refine' g_and ?_
  | with_reducible refine' g_or ?_
  | with_reducible refine' g_un ?_
  | with_reducible refine' g_U ?_
  | with_reducible refine' g_tup ?_
  | with_reducible refine' g_lst ?_
  | ((with_reducible refine' g_kNew ?h15 ?k15); (case' h15 => wtm_at "ln"); (case' k15 => intro _ _ _ _ _))
  | ((with_reducible refine' g_ixL ?h16 ?a16 ?k16); (case' h16 => wtm_at "sl"); (case' a16 => wtm_at "at"))
  | ((with_reducible refine' g_ixT ?h17 ?a17 ?k17); (case' h17 => wtm_at "st"); (case' a17 => wtm_at "at"))
  | with_reducible refine' g_slice ?_
  | with_reducible refine' g_part ?_
  | with_reducible refine' g_kPart ?_
  | with_reducible refine' g_noPart ?_
  | ((with_reducible refine' g_slL ?h18 ?k18); (case' h18 => wtm_at "sl"); (case' k18 => intro _ _ _ _ _))
  | ((with_reducible refine' g_cat ?h119 ?h219 ?l19 ?k19); (case' h119 => wtm_at "hp"); (case' h219 => wtm_at "hp"); (case' l19 => wtm_at "ln"); (case' k19 => intro _ _ _ _ _))
  | ((with_reducible refine' g_rep ?h120 ?h220 ?h320 ?l20 ?k20); (case' h120 => wtm_at "hp"); (case' h220 => wtm_at "ln"); (case' h320 => wtm_at "ln"); (case' l20 => wtm_at "ln"); (case' k20 => intro _ _ _ _ _))
  | ((with_reducible refine' g_append ?h21 ?l21 ?k21); (case' h21 => wtm_at "hp"); (case' l21 => wtm_at "ln"); (case' k21 => intro _ _ _))
  | ((with_reducible refine' g_kBM ?h22 ?k22); (case' h22 => wtm_at "sl"))
  | ((with_reducible refine' g_kBM0 ?h23 ?k23); (case' h23 => wtm_at "sl"))
  | ((with_reducible refine' g_kL ?h24 ?k24); (case' h24 => wtm_at "sl"))
  | ((with_reducible refine' g_kR1 ?h125 ?h225 ?k25); (case' h125 => wtm_at "ln"); (case' h225 => wtm_at "ln"))
  | ((with_reducible refine' g_kR2 ?h126 ?h226 ?h326 ?h426 ?k26); (case' h126 => wtm_at "ln"); (case' h226 => wtm_at "ln"); (case' h326 => wtm_at "ln"); (case' h426 => wtm_at "ln"))
  | ((with_reducible refine' g_lenL ?h27 ?k27); (case' h27 => wtm_at "sl"))
  | ((with_reducible refine' g_lenT ?h28 ?k28); (case' h28 => wtm_at "st"))
  | ((with_reducible refine' g_listL ?h29 ?k29); (case' h29 => wtm_at "sl"); (case' k29 => intro _ _ _ _ _))
  | ((with_reducible refine' g_tupleL ?h30 ?k30); (case' h30 => wtm_at "sl"); (case' k30 => intro _ _ _ _ _))
  | with_reducible refine' g_max ?_
  | with_reducible refine' g_min ?_
  | with_reducible refine' g_intB ?_
  | with_reducible refine' g_fld ?_
  | with_reducible refine' g_put ?_
  | with_reducible refine' g_dget ?_
  | with_reducible refine' g_isN ?_
  | with_reducible refine' g_notN ?_
  | with_reducible refine' g_ifE ?_
  | with_reducible refine' g_andV ?_
  | with_reducible refine' g_orV ?_
  | with_reducible refine' g_notV ?_
  | with_reducible refine' g_kIf ?_
  | with_reducible refine' g_chain ?_
  | with_reducible refine' g_kCh ?_
  | with_reducible refine' g_sub ?_
  | ((with_reducible refine' g_setI ?h92 ?e92 ?j92 ?k92); (case' h92 => wtm_at "hp"); (case' e92 => first | exact rfl | assumption); (case' j92 => wtm_at "ln"); (case' k92 => intro _ _ _))
  | ((with_reducible refine' g_setL ?h89 ?i89 ?k89); (case' h89 => wtm_at "hp"); (case' i89 => exact ixE rfl (by wtm_at "ln")); (case' k89 => intro _ _ _))
  | ((with_reducible refine' g_gtup ?h93 ?e93 ?k93); (case' h93 => wtm_at "st"); (case' e93 => exact rfl))
  | with_reducible refine' g_gcons ?_
  | with_reducible refine' g_gnil ?_
  | with_reducible refine' g_par ?_
  | with_reducible refine' g_kPar ?_
  | with_reducible refine' g_meth ?_
  | with_reducible refine' g_bm ?_
  | with_reducible refine' g_bm0 ?_
  | with_reducible refine' g_raise ?_
  | with_reducible refine' g_for ?_
  | with_reducible refine' g_iR1 ?_
  | with_reducible refine' g_iR2 ?_
  | with_reducible refine' g_iL ?_
  | with_reducible refine' g_lc ?_
  | with_reducible refine' g_retN ?_
  | with_reducible refine' g_no (b := false) rfl ?_
  | with_reducible refine' g_yes (b := true) rfl ?_)
local macro_rules | `(tactic| wtm_at "go") => `(tactic| repeat (wtm_at "g1"))
local macro_rules | `(tactic| wtm_at "gs") => `(tactic| repeat ((fail_if_success (with_reducible refine' g_ifE ?_)); wtm_at "g1"))
local macro_rules | `(tactic| wtm_at "gi") => `(tactic| repeat ((fail_if_success (with_reducible refine' g_if ?_)); wtm_at "g1"))
local macro_rules | `(tactic| wtm_at "gr") => `(tactic| repeat ((fail_if_success (with_reducible refine' g_ret ?_)); wtm_at "g1"))
local macro_rules | `(tactic| wtm_at "gq") => `(tactic| repeat ((fail_if_success (with_reducible refine' g_asg ?_)); wtm_at "g1"))
/-! ### codes at a list -/
def CdAll (H : Hp) : List V → List Cd → Prop
  | [], [] => True
  | u :: us, z :: zs => (∃ t, u = .ref t ∧ H t = some (.tup z.vs)) ∧ CdAll H us zs
  | _, _ => False
theorem CdAll.mx {S : List Addr} {H H' : Hp} (m : Mx S H H') (n : NoTup H S) : ∀ {us : List V} {zs : List Cd}, CdAll H us zs → CdAll H' us zs
  | [], [], _ => trivial
  | u :: us, z :: zs, ⟨⟨t, e, h⟩, r⟩ => ⟨⟨t, e, mx_tup m n h⟩, CdAll.mx m n r⟩
  | [], _ :: _, h => h.elim
  | _ :: _, [], h => h.elim
theorem CdAll.extn {H H' : Hp} (e : LamX.ExtN H H') : ∀ {us : List V} {zs : List Cd}, CdAll H us zs → CdAll H' us zs
  | [], [], _ => trivial
  | u :: us, z :: zs, ⟨⟨t, e1, h⟩, r⟩ => ⟨⟨t, e1, e _ _ h (fun _ z => nomatch z)⟩, CdAll.extn e r⟩
  | [], _ :: _, h => h.elim
  | _ :: _, [], h => h.elim
theorem CdAll.app {H : Hp} : ∀ {us ws : List V} {zs ys : List Cd}, CdAll H us zs → CdAll H ws ys → CdAll H (us ++ ws) (zs ++ ys)
  | [], _, [], _, _, h => h
  | u :: us, _, z :: zs, _, ⟨a, r⟩, h => ⟨a, CdAll.app r h⟩
  | [], _, _ :: _, _, h, _ => h.elim
  | _ :: _, _, [], _, h, _ => h.elim
theorem CdAll.len {H : Hp} : ∀ {us : List V} {zs : List Cd}, CdAll H us zs → us.length = zs.length
  | [], [], _ => rfl
  | u :: us, z :: zs, ⟨_, r⟩ => by simp [CdAll.len r]
  | [], _ :: _, h => h.elim
  | _ :: _, [], h => h.elim
theorem CdAll.get' {H : Hp} : ∀ {us : List V} {zs : List Cd} {i : Nat} {u : V}, CdAll H us zs → us[i]? = some u → ∃ z t, zs[i]? = some z ∧ u = .ref t ∧ H t = some (.tup z.vs)
  | [], [], _, _, _, e => by simp at e
  | u :: us, z :: zs, 0, x, ⟨⟨t, e1, h⟩, _⟩, e => by simp at e; subst e; exact ⟨z, t, rfl, e1, h⟩
  | u :: us, z :: zs, i + 1, x, ⟨_, r⟩, e => by
    obtain ⟨y, t, h1, h2⟩ := CdAll.get' (i := i) r (by simpa using e)
    exact ⟨y, t, by simpa using h1, h2⟩
  | [], _ :: _, _, _, h, _ => h.elim
  | _ :: _, [], _, _, h, _ => h.elim
theorem CdAll.dp {K : PySem.W.Frag} {H : Hp} : ∀ {us : List V} {zs : List Cd}, CdAll H us zs → DpAll K H us (zs.map cdD)
  | [], [], _ => .nil
  | u :: us, z :: zs, ⟨⟨t, e, h⟩, r⟩ => by
    subst e
    exact .cons (.tup (.of h) (.cons (.int _) (.cons (.int _) (.cons (.int _) (.cons (.int _) .nil))))) (CdAll.dp r)
  | [], _ :: _, h => h.elim
  | _ :: _, [], h => h.elim
end Fk
namespace Fk
open PySem PySem.Spec PyProof.Rows L2
local macro_rules | `(tactic| wtm_at "ln") => `(tactic| first
  | omega
  | (simp only [List.length_cons, List.length_nil, List.length_map, List.length_append, List.length_replicate, List.length_take, List.length_drop, List.length_set]; omega)
  | (with_unfolding_all exact (by decide)))
local macro_rules | `(tactic| wtm_at "ar") => `(tactic| first
  | ((with_reducible show CMulW _ _); (refine' mulS ?_ ?_ <;> omega))
  | ((with_reducible show CDivW _ _); (refine' divS ?_ ?_ <;> omega))
  | ((with_reducible show CPow _ _); exact ⟨by decide, by decide, by decide⟩)
  | (show (0 : Int) < _; omega)
  | (with_unfolding_all exact (by decide)))
local macro_rules | `(tactic| wtm_at "at") => `(tactic| first
  | assumption
  | (refine' cl_atE ?e80 ?h80; (case' e80 => first | exact rfl | assumption); (case' h80 => wtm_at "ln"))
  | exact rfl)
local macro_rules | `(tactic| wtm_at "fr") => `(tactic| first
  | assumption
  | ((with_reducible refine' Mx.free0 ?m99 ?h99); (case' h99 => assumption); (case' m99 => wtm_at "mo")))
local macro_rules | `(tactic| wtm_at "hp") => `(tactic| first
  | assumption
  | ((with_reducible refine' Mx.get0 ?m1 ?h1); (case' m1 => assumption); (case' h1 => wtm_at "hp"))
  | ((with_reducible refine' Mx.get ?m2 ?n2 ?h2); (case' m2 => assumption); (case' n2 => wtm_at "nin"); (case' h2 => wtm_at "hp")))
local macro_rules | `(tactic| wtm_at "sl") => `(tactic| first
  | assumption
  | ((with_reducible refine' Mx.sqL0 ?m96 ?h96); (case' h96 => assumption); (case' m96 => wtm_at "mo"))
  | (refine' SqL.of ?h3; (case' h3 => wtm_at "hp"))
  | ((with_reducible refine' Mx.sqL0 ?m4 ?h4); (case' m4 => assumption); (case' h4 => wtm_at "sl"))
  | ((with_reducible refine' Mx.sqL ?m5 ?n5 ?h5); (case' m5 => assumption); (case' n5 => wtm_at "nin"); (case' h5 => wtm_at "sl")))
local macro_rules | `(tactic| wtm_at "st") => `(tactic| first
  | assumption
  | ((with_reducible refine' Mx.sqT0 ?m97 ?h97); (case' h97 => assumption); (case' m97 => wtm_at "mo"))
  | (refine' SqT.of ?h6; (case' h6 => wtm_at "hp"))
  | ((with_reducible refine' Mx.sqT0 ?m7 ?h7); (case' m7 => assumption); (case' h7 => wtm_at "st"))
  | ((with_reducible refine' Mx.sqT ?m8 ?n8 ?h8); (case' m8 => assumption); (case' n8 => wtm_at "nin"); (case' h8 => wtm_at "st")))
local macro_rules | `(tactic| wtm_at "mx") => `(tactic| first
  | assumption
  | exact Mx.refl
  | ((with_reducible refine' Mx.of0 ?h9); (case' h9 => assumption))
  | ((with_reducible refine' Mx.trans ?h10 ?m10); (case' m10 => first | assumption | ((with_reducible refine' Mx.of0 ?q10); (case' q10 => assumption))); (case' h10 => wtm_at "mx")))
local macro_rules | `(tactic| wtm_at "mo") => `(tactic| first
  | wtm_at "mx"
  | ((with_reducible refine' Mx.own ?m90 ?f90 ?k90); (case' k90 => assumption); (case' f90 => wtm_at "fr"); (case' m90 => wtm_at "mo"))
  | ((with_reducible refine' Mx.trans ?h91 ?m91); (case' m91 => first | assumption | ((with_reducible refine' Mx.of0 ?q91); (case' q91 => assumption))); (case' h91 => wtm_at "mo")))
local macro_rules | `(tactic| wtm_at "ne") => `(tactic| first
  | assumption
  | exact Ne.symm (by assumption)
  | ((with_reducible refine' ne_of_none ?x94 ?y94); (case' y94 => assumption); (case' x94 => wtm_at "hp"))
  | ((with_reducible refine' Ne.symm (ne_of_none ?x95 ?y95)); (case' y95 => assumption); (case' x95 => wtm_at "hp")))
local macro_rules | `(tactic| wtm_at "nin") => `(tactic| first
  | assumption
  | exact List.not_mem_nil
  | ((with_reducible refine' List.not_mem_cons_of_ne_of_not_mem ?h98 ?t98); (case' h98 => wtm_at "ne"); (case' t98 => wtm_at "nin")))
local macro_rules | `(tactic| wtm_at "g1") => `(tactic| first
  | ((with_reducible refine' g_var ?h11 ?k11); (case' h11 => exact rfl))
  | with_reducible refine' g_c ?_
  | with_reducible refine' g_op ?_
  | with_reducible refine' g_I0 ?_
  | ((with_reducible refine' g_I ?c12 ?k12); (case' c12 => wtm_at "ar"))
  | with_reducible refine' g_cons ?_
  | with_reducible refine' g_nil ?_
  | with_reducible refine' g_seq ?_
  | with_reducible refine' g_asg ?_
  | with_reducible refine' g_name ?_
  | with_reducible refine' g_ret ?_
  | with_reducible refine' g_if ?_
  | with_reducible refine' g_test ?_
  | with_reducible refine' g_tB ?_
  | with_reducible refine' g_bl ?_
  | ((with_reducible refine' g_eq ?h13 ?k13); (case' h13 => exact rfl))
  | ((with_reducible refine' g_ne ?h14 ?k14); (case' h14 => exact rfl))
  | with_reducible refine' g_CB ?_
  | with_reducible refine' g_call ?_
  | with_reducible refine' g_drop ?_
  | with_reducible refine' g_next ?_
  | with_reducible refine' g_not ?_
  | with_reducible refine' g_and ?_
  | with_reducible refine' g_or ?_
  | with_reducible refine' g_un ?_
  | with_reducible refine' g_U ?_
  | with_reducible refine' g_tup ?_
  | with_reducible refine' g_lst ?_
  | ((with_reducible refine' g_kNew ?h15 ?k15); (case' h15 => wtm_at "ln"); (case' k15 => intro _ _ _ _ _))
  | ((with_reducible refine' g_ixL ?h16 ?a16 ?k16); (case' h16 => wtm_at "sl"); (case' a16 => wtm_at "at"))
  | ((with_reducible refine' g_ixT ?h17 ?a17 ?k17); (case' h17 => wtm_at "st"); (case' a17 => wtm_at "at"))
  | with_reducible refine' g_slice ?_
  | with_reducible refine' g_part ?_
  | with_reducible refine' g_kPart ?_
  | with_reducible refine' g_noPart ?_
  | ((with_reducible refine' g_slL ?h18 ?k18); (case' h18 => wtm_at "sl"); (case' k18 => intro _ _ _ _ _))
  | ((with_reducible refine' g_cat ?h119 ?h219 ?l19 ?k19); (case' h119 => wtm_at "hp"); (case' h219 => wtm_at "hp"); (case' l19 => wtm_at "ln"); (case' k19 => intro _ _ _ _ _))
  | ((with_reducible refine' g_rep ?h120 ?h220 ?h320 ?l20 ?k20); (case' h120 => wtm_at "hp"); (case' h220 => wtm_at "ln"); (case' h320 => wtm_at "ln"); (case' l20 => wtm_at "ln"); (case' k20 => intro _ _ _ _ _))
  | ((with_reducible refine' g_append ?h21 ?l21 ?k21); (case' h21 => wtm_at "hp"); (case' l21 => wtm_at "ln"); (case' k21 => intro _ _ _))
  | ((with_reducible refine' g_kBM ?h22 ?k22); (case' h22 => wtm_at "sl"))
  | ((with_reducible refine' g_kBM0 ?h23 ?k23); (case' h23 => wtm_at "sl"))
  | ((with_reducible refine' g_kL ?h24 ?k24); (case' h24 => wtm_at "sl"))
  | ((with_reducible refine' g_kR1 ?h125 ?h225 ?k25); (case' h125 => wtm_at "ln"); (case' h225 => wtm_at "ln"))
  | ((with_reducible refine' g_kR2 ?h126 ?h226 ?h326 ?h426 ?k26); (case' h126 => wtm_at "ln"); (case' h226 => wtm_at "ln"); (case' h326 => wtm_at "ln"); (case' h426 => wtm_at "ln"))
  | ((with_reducible refine' g_lenL ?h27 ?k27); (case' h27 => wtm_at "sl"))
  | ((with_reducible refine' g_lenT ?h28 ?k28); (case' h28 => wtm_at "st"))
  | ((with_reducible refine' g_listL ?h29 ?k29); (case' h29 => wtm_at "sl"); (case' k29 => intro _ _ _ _ _))
  | ((with_reducible refine' g_tupleL ?h30 ?k30); (case' h30 => wtm_at "sl"); (case' k30 => intro _ _ _ _ _))
  | with_reducible refine' g_max ?_
  | with_reducible refine' g_min ?_
  | with_reducible refine' g_intB ?_
  | with_reducible refine' g_fld ?_
  | with_reducible refine' g_put ?_
  | with_reducible refine' g_dget ?_
  | with_reducible refine' g_isN ?_
  | with_reducible refine' g_notN ?_
  | with_reducible refine' g_ifE ?_
  | with_reducible refine' g_andV ?_
  | with_reducible refine' g_orV ?_
  | with_reducible refine' g_notV ?_
  | with_reducible refine' g_kIf ?_
  | with_reducible refine' g_chain ?_
  | with_reducible refine' g_kCh ?_
  | with_reducible refine' g_sub ?_
  | ((with_reducible refine' g_setI ?h92 ?e92 ?j92 ?k92); (case' h92 => wtm_at "hp"); (case' e92 => first | exact rfl | assumption); (case' j92 => wtm_at "ln"); (case' k92 => intro _ _ _))
  | ((with_reducible refine' g_setL ?h89 ?i89 ?k89); (case' h89 => wtm_at "hp"); (case' i89 => exact ixE rfl (by wtm_at "ln")); (case' k89 => intro _ _ _))
  | ((with_reducible refine' g_gtup ?h93 ?e93 ?k93); (case' h93 => wtm_at "st"); (case' e93 => exact rfl))
  | with_reducible refine' g_gcons ?_
  | with_reducible refine' g_gnil ?_
  | with_reducible refine' g_par ?_
  | with_reducible refine' g_kPar ?_
  | with_reducible refine' g_meth ?_
  | with_reducible refine' g_bm ?_
  | with_reducible refine' g_bm0 ?_
  | with_reducible refine' g_raise ?_
  | with_reducible refine' g_for ?_
  | with_reducible refine' g_iR1 ?_
  | with_reducible refine' g_iR2 ?_
  | with_reducible refine' g_iL ?_
  | with_reducible refine' g_lc ?_
  | with_reducible refine' g_retN ?_
  | with_reducible refine' g_no (b := false) rfl ?_
  | with_reducible refine' g_yes (b := true) rfl ?_)
local macro_rules | `(tactic| wtm_at "go") => `(tactic| repeat (wtm_at "g1"))
local macro_rules | `(tactic| wtm_at "gs") => `(tactic| repeat ((fail_if_success (with_reducible refine' g_ifE ?_)); wtm_at "g1"))
local macro_rules | `(tactic| wtm_at "gi") => `(tactic| repeat ((fail_if_success (with_reducible refine' g_if ?_)); wtm_at "g1"))
local macro_rules | `(tactic| wtm_at "gr") => `(tactic| repeat ((fail_if_success (with_reducible refine' g_ret ?_)); wtm_at "g1"))
local macro_rules | `(tactic| wtm_at "gq") => `(tactic| repeat ((fail_if_success (with_reducible refine' g_asg ?_)); wtm_at "g1"))
/-! ### houses -/
structure Hs where
  key : Int
  money : Int
  spent : Int
  ms : List Int
  iss : Int → List Cd
  tkn : Int → List Cd
def hFlds (η : Hs) (di dt : Addr) : List (Str × V) := [("key", .int η.key), ("money", .int η.money), ("spent", .int η.spent), ("issues", .ref di), ("taken", .ref dt)]
/-- lists of codes, one for each meter -/
def CdL (H : Hp) (ms : List Int) (a : Int → Addr) (c : Int → List Cd) : Prop := ∀ m ∈ ms, ∃ us, H (a m) = some (.lst us) ∧ CdAll H us (c m)
theorem CdL.mx {S : List Addr} {H H' : Hp} {ms : List Int} {a : Int → Addr} {c : Int → List Cd} (h : CdL H ms a c) (m : Mx S H H') (n : NoTup H S) (f : ∀ j ∈ ms, a j ∉ S) : CdL H' ms a c := fun j hj => by
  obtain ⟨us, e, d⟩ := h j hj
  exact ⟨us, m _ _ e (f j hj), d.mx m n⟩
structure HsAt (C : Addr) (H : Hp) (h di dt : Addr) (ai ak : Int → Addr) (η : Hs) : Prop where
  ob : ∃ dx, H h = some (.ins C dx (hFlds η di dt))
  di : H di = some (.dK (kvO η.ms ai))
  dt : H dt = some (.dK (kvO η.ms ak))
  li : CdL H η.ms ai η.iss
  lk : CdL H η.ms ak η.tkn
def ftH (h di dt : Addr) (ai ak : Int → Addr) (ms : List Int) : List Addr := h :: di :: dt :: (ms.map ai ++ ms.map ak)
theorem ftH_i {h di dt : Addr} {ai ak : Int → Addr} {ms : List Int} {m : Int} (hm : m ∈ ms) : ai m ∈ ftH h di dt ai ak ms := by
  simp only [ftH, List.mem_cons, List.mem_append]
  exact .inr (.inr (.inr (.inl (List.mem_map_of_mem hm))))
theorem ftH_k {h di dt : Addr} {ai ak : Int → Addr} {ms : List Int} {m : Int} (hm : m ∈ ms) : ak m ∈ ftH h di dt ai ak ms := by
  simp only [ftH, List.mem_cons, List.mem_append]
  exact .inr (.inr (.inr (.inr (List.mem_map_of_mem hm))))
theorem HsAt.mx {C : Addr} {S : List Addr} {H H' : Hp} {h di dt : Addr} {ai ak : Int → Addr} {η : Hs} (M : HsAt C H h di dt ai ak η) (m : Mx S H H') (n : NoTup H S) (f : ∀ x ∈ ftH h di dt ai ak η.ms, x ∉ S) : HsAt C H' h di dt ai ak η := by
  obtain ⟨⟨dx, ob⟩, di', dt', li, lk⟩ := M
  exact ⟨⟨dx, m _ _ ob (f _ (by simp [ftH]))⟩, m _ _ di' (f _ (by simp [ftH])), m _ _ dt' (f _ (by simp [ftH])), li.mx m n fun j hj => f _ (ftH_i hj), lk.mx m n fun j hj => f _ (ftH_k hj)⟩
theorem HsAt.mx0 {C : Addr} {H H' : Hp} {h di dt : Addr} {ai ak : Int → Addr} {η : Hs} (M : HsAt C H h di dt ai ak η) (m : Mx [] H H') : HsAt C H' h di dt ai ak η := M.mx m noTup0 fun _ _ => by simp
/-- the lists are apart -/
structure Hin (ms : List Int) (ai ak : Int → Addr) : Prop where
  i1 : ∀ m ∈ ms, ∀ m' ∈ ms, ai m = ai m' → m = m'
  i2 : ∀ m ∈ ms, ∀ m' ∈ ms, ak m = ak m' → m = m'
  i3 : ∀ m ∈ ms, ∀ m' ∈ ms, ai m ≠ ak m'
/-- the numbers are of some size -/
structure Hw (n : Nat) (η : Hs) : Prop where
  kk : 0 ≤ η.key ∧ η.key ≤ 999981
  mo : η.money.natAbs ≤ 100000 * n
  sp : η.spent.natAbs ≤ 100000 * n
  mb : ∀ m ∈ η.ms, 1 ≤ m ∧ m ≤ 9999
  li : ∀ m ∈ η.ms, (η.iss m).length ≤ n
  lk : ∀ m ∈ η.ms, (η.tkn m).length ≤ n
  nd : η.ms.Nodup
  ln : 1 ≤ η.ms.length ∧ η.ms.length ≤ 4
def setM {α : Type} (f : Int → α) (m : Int) (v : α) : Int → α := fun j => if j = m then v else f j
theorem setM_same {α : Type} {f : Int → α} {m : Int} {v : α} : setM f m v m = v := if_pos rfl
theorem setM_ne {α : Type} {f : Int → α} {m j : Int} {v : α} (h : j ≠ m) : setM f m v j = f j := if_neg h
theorem amtB {a : Int} (h : ¬ amt a = false) : 1 ≤ a ∧ a ≤ 99999 := by
  unfold amt at h
  simp at h
  exact h
/-! what deeds do -/
inductive HD where
  | buy (a : Int) | iss (m a : Int) | tk (z : Cd)
def issC (η : Hs) (m a : Int) : Cd := mkCd η.key m ((η.iss m).length + 1) a 1
def resH (η : Hs) : HD → Option Rf
  | .buy a => if amt a = true then none else some .amount
  | .iss m a => if ¬ m ∈ η.ms then some .meter else if amt a = false then some .amount else if η.money < a then some .short else none
  | .tk z => if ¬ z.m ∈ η.ms then some .code else if good η.key z z.m ((η.tkn z.m).length + 1) 2 = false then some .code else none
def newH (η : Hs) : HD → Hs
  | .buy a => { η with money := η.money + a, spent := η.spent + a }
  | .iss m a => { η with money := η.money - a, iss := setM η.iss m (η.iss m ++ [issC η m a]) }
  | .tk z => { η with money := η.money + z.a, tkn := setM η.tkn z.m (η.tkn z.m ++ [z]) }
def telH (η : Hs) : HD → PyData
  | .buy a => .int (η.money + a)
  | .iss m a => cdD (issC η m a)
  | .tk z => .int z.a
def dueH (η : Hs) (d : HD) : PyData × Hs := match resH η d with
  | some r => (.str r.word, η)
  | none => (telH η d, newH η d)
theorem newH_ms (η : Hs) (d : HD) : (newH η d).ms = η.ms := by cases d <;> rfl
theorem dueH_ms (η : Hs) (d : HD) : (dueH η d).2.ms = η.ms := by
  unfold dueH
  cases resH η d with
  | some r => rfl
  | none => exact newH_ms η d
theorem dueH_w {n : Nat} {η : Hs} (W : Hw n η) (d : HD) : Hw (n + 1) (dueH η d).2 := by
  obtain ⟨kk, mo, sp, mb, li, lk, nd, ln⟩ := W
  unfold dueH
  cases hr : resH η d with
  | some r => exact ⟨kk, by show η.money.natAbs ≤ _; omega, by show η.spent.natAbs ≤ _; omega, mb, fun m h => Nat.le_succ_of_le (li m h), fun m h => Nat.le_succ_of_le (lk m h), nd, ln⟩
  | none =>
    cases d with
    | buy a =>
      have ha : 1 ≤ a ∧ a ≤ 99999 := by
        refine amt_iff.mp (Classical.byContradiction fun z => ?_)
        simp only [resH, if_neg z] at hr
        cases hr
      exact ⟨kk, by show (η.money + a).natAbs ≤ _; omega, by show (η.spent + a).natAbs ≤ _; omega, mb, fun m h => Nat.le_succ_of_le (li m h), fun m h => Nat.le_succ_of_le (lk m h), nd, ln⟩
    | iss m a =>
      have ha : 1 ≤ a ∧ a ≤ 99999 := amtB fun z => by simp only [resH, z] at hr; split at hr <;> simp at hr
      refine ⟨kk, by show (η.money - a).natAbs ≤ _; omega, by show η.spent.natAbs ≤ _; omega, mb, fun j h => ?_, fun m h => Nat.le_succ_of_le (lk m h), nd, ln⟩
      show (setM η.iss m _ j).length ≤ _
      by_cases e : j = m
      · subst e; rw [setM_same, List.length_append]; have := li j h; simp; omega
      · rw [setM_ne e]; exact Nat.le_succ_of_le (li j h)
    | tk z =>
      have ha : 1 ≤ z.a ∧ z.a ≤ 99999 := amtB fun q => by simp only [resH, good, q, Bool.and_false, Bool.false_and] at hr; split at hr <;> simp at hr
      refine ⟨kk, by show (η.money + z.a).natAbs ≤ _; omega, by show η.spent.natAbs ≤ _; omega, mb, fun m h => Nat.le_succ_of_le (li m h), fun j h => ?_, nd, ln⟩
      show (setM η.tkn z.m _ j).length ≤ _
      by_cases e : j = z.m
      · subst e; rw [setM_same, List.length_append]; have := lk z.m h; simp; omega
      · rw [setM_ne e]; exact Nat.le_succ_of_le (lk j h)
theorem shaped_cds (zs : List Cd) : SeqAt.shaped (.list (zs.map cdD)) = true := by
  have h1 : ∀ zs : List Cd, PyData.canLayAll0 (zs.map cdD) = true := fun zs => by
    induction zs with
    | nil => rfl
    | cons z r ih => simp [PyData.canLayAll0, PyData.canLay0, cdD, ih]
  have h2 : ∀ zs : List Cd, PyData.depthAll (zs.map cdD) ≤ 1 := fun zs => by
    induction zs with
    | nil => simp [PyData.depthAll]
    | cons z r ih => simp [PyData.depthAll, PyData.depth, cdD]; omega
  have := h2 zs
  simp [SeqAt.shaped, PyData.canLay0, h1, PyData.depth]
  omega
theorem eqv_nil (zs : List Cd) : PyData.eqv (.list (zs.map cdD)) (.list []) = decide (zs = []) := by
  cases zs with
  | nil => simp [PyData.eqv, PyData.eqvAll]
  | cons z r => simp [PyData.eqv, PyData.eqvAll]
def lastD (zs : List Cd) : PyData := match zs.getLast? with
  | none => .none
  | some z => cdD z
theorem CdAll.last {H : Hp} {us : List V} {zs : List Cd} (h : CdAll H us zs) (hn : zs ≠ []) : ∃ t z, atI us (-1) = some (.ref t) ∧ zs.getLast? = some z ∧ H t = some (.tup z.vs) := by
  have hl := h.len
  have h0 : zs.length ≠ 0 := fun z => hn (List.length_eq_zero_iff.mp z)
  obtain ⟨u, hu⟩ : ∃ u, us[us.length - 1]? = some u := ⟨_, List.getElem?_eq_getElem (by omega)⟩
  obtain ⟨z, t, hz, rfl, ht⟩ := h.get' hu
  refine ⟨t, z, ?_, ?_, ht⟩
  · unfold atI ixN
    rw [if_neg (by omega), if_pos (by omega)]
    show us[(-1 + (us.length : Int)).toNat]? = _
    rw [show (-1 + (us.length : Int)).toNat = us.length - 1 by omega]
    exact hu
  · rw [List.getLast?_eq_getElem?, ← hl]; exact hz
section
variable {P : Program} {w : World} {K : PySem.W.Frag} {mg : Str → Option Value} {base : Heap}
section
variable {σ : L2.St} {H : Hp} {Q : VK} {p di dt dx : Addr} {η : Hs} {N : Hp → Prop} {b : Int}
theorem g_hKey (T : Tx K mg) (h : H p = some (.ins T.C_House dx (hFlds η di dt))) (k : Q (.int η.key) H) : kFld K "key" Q (.ref p) H := g_kFld h T.cls_House T.na_House_key rfl k
theorem g_hMon (T : Tx K mg) (h : H p = some (.ins T.C_House dx (hFlds η di dt))) (k : Q (.int η.money) H) : kFld K "money" Q (.ref p) H := g_kFld h T.cls_House T.na_House_money rfl k
theorem g_hSpe (T : Tx K mg) (h : H p = some (.ins T.C_House dx (hFlds η di dt))) (k : Q (.int η.spent) H) : kFld K "spent" Q (.ref p) H := g_kFld h T.cls_House T.na_House_spent rfl k
theorem g_hIss (T : Tx K mg) (h : H p = some (.ins T.C_House dx (hFlds η di dt))) (k : Q (.ref di) H) : kFld K "issues" Q (.ref p) H := g_kFld h T.cls_House T.na_House_issues rfl k
theorem g_hTak (T : Tx K mg) (h : H p = some (.ins T.C_House dx (hFlds η di dt))) (k : Q (.ref dt) H) : kFld K "taken" Q (.ref p) H := g_kFld h T.cls_House T.na_House_taken rfl k
theorem g_hpMon (T : Tx K mg) (h : H p = some (.ins T.C_House dx (hFlds η di dt))) (k : ∀ H', Mx [p] H H' → H' p = some (.ins T.C_House dx (hFlds { η with money := b } di dt)) → N H') : kPut K "money" (.int b) N (.ref p) H :=
  g_kPut h T.cls_House T.na_House_money rfl (by show 5 < 1000; decide) k
theorem g_hpSpe (T : Tx K mg) (h : H p = some (.ins T.C_House dx (hFlds η di dt))) (k : ∀ H', Mx [p] H H' → H' p = some (.ins T.C_House dx (hFlds { η with spent := b } di dt)) → N H') : kPut K "spent" (.int b) N (.ref p) H :=
  g_kPut h T.cls_House T.na_House_spent rfl (by show 5 < 1000; decide) k
end
local macro_rules | `(tactic| wtm_at "g1") => `(tactic| first
  | ((with_reducible refine' g_hKey (by assumption) ?h501 ?k501); (case' h501 => wtm_at "hp"))
  | ((with_reducible refine' g_hMon (by assumption) ?h502 ?k502); (case' h502 => wtm_at "hp"))
  | ((with_reducible refine' g_hSpe (by assumption) ?h503 ?k503); (case' h503 => wtm_at "hp"))
  | ((with_reducible refine' g_hIss (by assumption) ?h504 ?k504); (case' h504 => wtm_at "hp"))
  | ((with_reducible refine' g_hTak (by assumption) ?h505 ?k505); (case' h505 => wtm_at "hp"))
  | ((with_reducible refine' g_hpMon (by assumption) ?h506 ?k506); (case' h506 => wtm_at "hp"); (case' k506 => intro _ _ _))
  | ((with_reducible refine' g_hpSpe (by assumption) ?h507 ?k507); (case' h507 => wtm_at "hp"); (case' k507 => intro _ _ _))
  | ((with_reducible refine' g_kMeth ?h508 ?l508 ?k508); (case' h508 => wtm_at "hp"); (case' l508 => exact rfl))
  | ((with_reducible refine' g_kDGetI ?h509 ?l509 ?k509); (case' h509 => wtm_at "hp"); (case' l509 => wtm_at "kv"))
  | (with_reducible refine' g_dni ?_)
  | ((with_reducible refine' g_kDNi ?h510 ?k510); (case' h510 => wtm_at "hp"))
  | (with_reducible refine' g_lenSet ?_))
local macro_rules | `(tactic| wtm_at "kv") => `(tactic| first
  | exact kvO_get (by assumption)
  | exact rfl)

def spHFunds (T : Tx K mg) : Sp := fun vs H Q _ => ∃ (h di dt : Addr) (ai ak : Int → Addr) (η : Hs), vs = [.ref h] ∧ HsAt T.C_House H h di dt ai ak η ∧ Q (.int η.money) H
theorem mt_House_funds (T : Tx K mg) : Me P w K mg base 1 T.C_House "funds" (spHFunds T) [] := by
  refine T.m_House_funds.me T.cls_House sc_House_funds (fun vs H Q E h => ?_) (fun cdv A outer s H vs Q E hr h => ?_)
  · obtain ⟨_, _, _, _, _, _, rfl, _⟩ := h
    rfl
  · obtain ⟨h, di, dt, ai, ak, η, rfl, ⟨⟨dx, ob⟩, _, _, _, _⟩, q⟩ := h
    refine ⟨_, (pss_one (ps_ret (fldK K (pv 0) rfl))), ?_⟩
    wtm_at "go"
    exact q
def spHBought (T : Tx K mg) : Sp := fun vs H Q _ => ∃ (h di dt : Addr) (ai ak : Int → Addr) (η : Hs), vs = [.ref h] ∧ HsAt T.C_House H h di dt ai ak η ∧ Q (.int η.spent) H
theorem mt_House_bought (T : Tx K mg) : Me P w K mg base 1 T.C_House "bought" (spHBought T) [] := by
  refine T.m_House_bought.me T.cls_House sc_House_bought (fun vs H Q E h => ?_) (fun cdv A outer s H vs Q E hr h => ?_)
  · obtain ⟨_, _, _, _, _, _, rfl, _⟩ := h
    rfl
  · obtain ⟨h, di, dt, ai, ak, η, rfl, ⟨⟨dx, ob⟩, _, _, _, _⟩, q⟩ := h
    refine ⟨_, (pss_one (ps_ret (fldK K (pv 0) rfl))), ?_⟩
    wtm_at "go"
    exact q
def spNeedMeter (T : Tx K mg) : Sp := fun vs H Q E => ∃ (h di dt : Addr) (ai ak : Int → Addr) (η : Hs) (m : Int), vs = [.ref h, .int m] ∧ HsAt T.C_House H h di dt ai ak η ∧ (m ∈ η.ms → Q .non H) ∧ (¬ m ∈ η.ms → E (.ref T.E_NoMeter) none H)
theorem mt_House_need_meter (T : Tx K mg) : Me P w K mg base 1 T.C_House "need_meter" (spNeedMeter T) [] := by
  refine T.m_House_need_meter.me T.cls_House sc_House_need_meter (fun vs H Q E h => ?_) (fun cdv A outer s H vs Q E hr h => ?_)
  · obtain ⟨_, _, _, _, _, _, _, rfl, _⟩ := h
    rfl
  · obtain ⟨h, di, dt, ai, ak, η, m, rfl, ⟨⟨dx, ob⟩, hdi, hdt, _, _⟩, q1, q2⟩ := h
    have hu := hu_of hr
    refine ⟨_, (pss_one (ps_if (pt_cmp (pc_dnotin hu (pv 1) (fldK K (pv 0) rfl)) rfl) (pss_one (q_raise rfl (takes_of rfl rfl rfl rfl) T.x_NoMeter rfl)) pss_nil)), ?_⟩
    wtm_at "go"
    rw [kvO_in]
    refine g_ite (fun e => ?_) (fun e => ?_)
    · wtm_at "go"
      exact q2 (by simpa using e)
    · wtm_at "go"
      exact q1 (by simpa using e)
def spHBuy (T : Tx K mg) : Sp := fun vs H Q E => ∃ (h di dt : Addr) (ai ak : Int → Addr) (η : Hs) (a : Int), vs = [.ref h, .int a] ∧ HsAt T.C_House H h di dt ai ak η ∧ (∀ r, resH η (.buy a) = some r → E (.ref (r.at T)) none H) ∧
  (resH η (.buy a) = none → ∀ H', Mx [h] H H' → HsAt T.C_House H' h di dt ai ak (newH η (.buy a)) → Q (.int (η.money + a)) H')
theorem HsAt.fld {C : Addr} {H H' : Hp} {h di dt dx : Addr} {ai ak : Int → Addr} {η η' : Hs} (M : HsAt C H h di dt ai ak η) (m : Mx [h] H H') (e : H' h = some (.ins C dx (hFlds η' di dt))) (e1 : η'.ms = η.ms) (e2 : η'.iss = η.iss) (e3 : η'.tkn = η.tkn) : HsAt C H' h di dt ai ak η' := by
  obtain ⟨⟨dx0, ob⟩, di', dt', li, lk⟩ := M
  have nt : NoTup H [h] := noTupI ob
  refine ⟨⟨dx, e⟩, ?_, ?_, ?_, ?_⟩
  · rw [e1]; exact m _ _ di' (by simp; exact (ne_of ob di' fun z => nomatch z).symm)
  · rw [e1]; exact m _ _ dt' (by simp; exact (ne_of ob dt' fun z => nomatch z).symm)
  · rw [e1, e2]; exact li.mx m nt fun j hj => by obtain ⟨us, eu, _⟩ := li j hj; simp; exact (ne_of ob eu fun z => nomatch z).symm
  · rw [e1, e3]; exact lk.mx m nt fun j hj => by obtain ⟨us, eu, _⟩ := lk j hj; simp; exact (ne_of ob eu fun z => nomatch z).symm
theorem mt_House_buy (T : Tx K mg) : Me P w K mg base 3 T.C_House "buy" (spHBuy T) [] := by
  refine T.m_House_buy.me T.cls_House sc_House_buy (fun vs H Q E h => ?_) (fun cdv A outer s H vs Q E hr h => ?_)
  · obtain ⟨_, _, _, _, _, _, _, rfl, _⟩ := h
    rfl
  · obtain ⟨h, di, dt, ai, ak, η, a, rfl, M, q1, q2⟩ := h
    obtain ⟨dx, ob⟩ := M.ob
    refine ⟨_, (pss_cons (ps_expr (q_call (c_need_amount T) hr (by decide) rfl (passes_call (takes_of rfl rfl rfl rfl) (fun _ _ _ _ h => h)) (pa_cons (pv 1) pa_nil)))
      (pss_cons (psFld K (pv 0) (pe_op op_add (fldK K (pv 0) rfl) (pv 1)) rfl)
      (pss_cons (psFld K (pv 0) (pe_op op_add (fldK K (pv 0) rfl) (pv 1)) rfl)
      (pss_one (ps_ret (fldK K (pv 0) rfl)))))), ?_⟩
    wtm_at "go"
    refine ⟨a, rfl, fun ea => ?_, fun ea => q1 .amount (by simp [resH, ea])⟩
    wtm_at "go"
    rename_i H1 m1 e1 H2 m2 e2
    exact q2 (by simp [resH, ea]) H2 (m1.trans m2) (M.fld (m1.trans m2) e2 rfl rfl rfl)
/-- a code comes to a list -/
theorem CdL.push {H H' : Hp} {ms : List Int} {a : Int → Addr} {c : Int → List Cd} {m : Int} {us : List V} {y : V} {z : Cd} (L : CdL H ms a c) (e : H (a m) = some (.lst us)) (d : CdAll H us (c m)) (mm : Mx [a m] H H') (e' : H' (a m) = some (.lst (us ++ [y]))) (hy : ∃ t, y = .ref t ∧ H t = some (.tup z.vs)) (inj : ∀ j ∈ ms, a j = a m → j = m) : CdL H' ms a (setM c m (c m ++ [z])) := fun j hj => by
  have nt : NoTup H [a m] := noTup1 e
  by_cases h : j = m
  · subst h
    rw [setM_same]
    obtain ⟨t, rfl, ht⟩ := hy
    exact ⟨_, e', (d.mx mm nt).app ⟨⟨t, rfl, mx_tup mm nt ht⟩, trivial⟩⟩
  · rw [setM_ne h]
    obtain ⟨us2, e2, d2⟩ := L j hj
    exact ⟨us2, mm _ _ e2 (by simp; exact fun z => h (inj j hj z)), d2.mx mm nt⟩
def spHIssue (T : Tx K mg) : Sp := fun vs H Q E => ∃ (h di dt : Addr) (ai ak : Int → Addr) (η : Hs) (m a : Int) (n : Nat), vs = [.ref h, .int m, .int a] ∧ HsAt T.C_House H h di dt ai ak η ∧ Hin η.ms ai ak ∧ Hw n η ∧ n < 1000 ∧ (∀ r, resH η (.iss m a) = some r → E (.ref (r.at T)) none H) ∧
  (resH η (.iss m a) = none → m ∈ η.ms → ∀ t H', H t = none → Mx [h, ai m] H H' → H' t = some (.tup (issC η m a).vs) → HsAt T.C_House H' h di dt ai ak (newH η (.iss m a)) → Q (.ref t) H')
theorem mt_House_issue (T : Tx K mg) : Me P w K mg base 3 T.C_House "issue" (spHIssue T) [] := by
  refine T.m_House_issue.me T.cls_House sc_House_issue (fun vs H Q E h => ?_) (fun cdv A outer s H vs Q E hr h => ?_)
  · obtain ⟨_, _, _, _, _, _, _, _, _, rfl, _⟩ := h
    rfl
  · obtain ⟨h, di, dt, ai, ak, η, m, a, n, rfl, M, I, W, hn, q1, q2⟩ := h
    have hu := hu_of hr
    obtain ⟨dx, ob⟩ := M.ob
    refine ⟨_, (pss_cons (ps_expr (q_meth (mt_House_need_meter T) hr (by decide) (pv 0) (passes_call (takes_of rfl rfl rfl rfl) (fun _ _ _ _ h => h)) (pa_cons (pv 1) pa_nil)))
      (pss_cons (ps_expr (q_call (c_need_amount T) hr (by decide) rfl (passes_call (takes_of rfl rfl rfl rfl) (fun _ _ _ _ h => h)) (pa_cons (pv 2) pa_nil)))
      (pss_cons (ps_if (pt_cmpR op_lt (fldK K (pv 0) rfl) (pv 2) (by first | exact nomark _ | rfl)) (pss_one (q_raise rfl (takes_of rfl rfl rfl rfl) T.x_Short rfl)) pss_nil)
      (pss_cons (psFld K (pv 0) (pe_op op_sub (fldK K (pv 0) rfl) (pv 2)) rfl)
      (pss_cons (ps_set (i := 3) sc_House_issue.nd rfl (Or.inl rfl) (q_call (c_code_of T) hr (by decide) rfl (passes_call (takes_of rfl rfl rfl rfl) (fun _ _ _ _ h => h)) (pa_cons (fldK K (pv 0) rfl) (pa_cons (pv 1) (pa_cons (pe_op op_add (pe_callB (cLen K) (by rfl) T.n_len (by decide +kernel) (pa_cons (pe_dget hu (fldK K (pv 0) rfl) (pv 1) (fun _ _ => rfl)) pa_nil)) pe_int) (pa_cons (pv 2) (pa_cons (q_const T.g_TOP rfl) pa_nil)))))))
      (pss_cons (ps_expr (bmK K PySem.F.plainAttrs_list PySem.F.slot_list_append PySem.F.type_list_append mt_append (pe_dget hu (fldK K (pv 0) rfl) (pv 1) (fun _ _ => rfl)) (pa_cons (pv 3) pa_nil)))
      (pss_one (ps_ret (pv 3))))))))), ?_⟩
    wtm_at "go"
    refine ⟨h, di, dt, ai, ak, η, m, rfl, M, fun hm => ?_, fun hm => q1 .meter (by simp [resH, hm])⟩
    wtm_at "go"
    refine ⟨a, rfl, fun ea => ?_, fun ea => q1 .amount (by simp [resH, hm, ea])⟩
    have ha := amt_iff.mp ea
    wtm_at "go"
    refine g_ite (fun e => ?_) (fun e => ?_)
    · wtm_at "go"
      exact q1 .short (by simp [resH, hm, ea]; simpa using e)
    · have hsh : ¬ η.money < a := by simpa using e
      have q3 := q2 (by simp [resH, hm, ea]; omega) hm
      wtm_at "go"
      rename_i H1 m1 e1
      have M1 := M.fld (η' := { η with money := η.money - a }) m1 e1 rfl rfl rfl
      have hdi1' : H1 di = some (.dK (kvO η.ms ai)) := M1.di
      obtain ⟨us, eu, du⟩ := M1.li m hm
      have lu := du.len
      have hli := W.li m hm
      have hmb := W.mb m hm
      have hkk := W.kk
      have lu2 : us.length = (η.iss m).length := lu
      wtm_at "go"
      rw [lu2]
      refine ⟨_, _, _, _, _, rfl, (by show Bd η.key; unfold Bd; omega), (by unfold Bd; omega), (by unfold Bd; omega), (by unfold Bd; omega), (by unfold Bd; omega), fun t H2 n2 m2 e2 => ?_⟩
      have M2 := M1.mx0 m2
      have e12 := m2.get0 e1
      have eu2 := m2.get0 eu
      have hdi2 := m2.get0 hdi1'
      wtm_at "go"
      rename_i H3 m3 e3
      have ht3 : H3 t = some (.tup (issC η m a).vs) := mx_tup m3 (noTup1 eu2) e2
      have hne : ai m ≠ h := (ne_of e12 eu2 fun z => nomatch z).symm
      refine q3 t H3 (m1.free n2 (fun hx => ?_) |> fun z => z) ((m1.mono (by simp)).trans (m2.of0.trans (m3.mono (by simp)))) ht3 ⟨⟨dx, m3 _ _ e12 (by simpa using hne.symm)⟩, m3 _ _ hdi2 (by simp; exact ne_of hdi2 eu2 fun z => nomatch z), ?_, ?_, ?_⟩
      · simp at hx
        rw [hx] at n2
        rw [e1] at n2
        cases n2
      · exact m3 _ _ M2.dt (by simp; exact ne_of M2.dt eu2 fun z => nomatch z)
      · exact M2.li.push eu2 (du.mx m2 noTup0) m3 e3 ⟨t, rfl, e2⟩ fun j hj z => I.i1 j hj m hm z
      · exact M2.lk.mx m3 (noTup1 eu2) fun j hj => by simp; exact fun z => I.i3 m hm j hj z.symm
def spHLast (T : Tx K mg) : Sp := fun vs H Q E => ∃ (h di dt : Addr) (ai ak : Int → Addr) (η : Hs) (m : Int), vs = [.ref h, .int m] ∧ HsAt T.C_House H h di dt ai ak η ∧ (¬ m ∈ η.ms → E (.ref T.E_NoMeter) none H) ∧ (m ∈ η.ms → ∀ v H', Mx [] H H' → Dp K H' v (lastD (η.iss m)) → Q v H')
theorem mt_House_last_code (T : Tx K mg) : Me P w K mg base 2 T.C_House "last_code" (spHLast T) [] := by
  refine T.m_House_last_code.me T.cls_House sc_House_last_code (fun vs H Q E h => ?_) (fun cdv A outer s H vs Q E hr h => ?_)
  · obtain ⟨_, _, _, _, _, _, _, rfl, _⟩ := h
    rfl
  · obtain ⟨h, di, dt, ai, ak, η, m, rfl, M, q1, q2⟩ := h
    have hu := hu_of hr
    obtain ⟨dx, ob⟩ := M.ob
    refine ⟨_, (pss_cons (ps_expr (q_meth (mt_House_need_meter T) hr (by decide) (pv 0) (passes_call (takes_of rfl rfl rfl rfl) (fun _ _ _ _ h => h)) (pa_cons (pv 1) pa_nil)))
      (pss_one (ps_ret (pe_ifExp (pt_cmpR (opNeD K hr.units) (pe_dget hu (fldK K (pv 0) rfl) (pv 1) (fun _ _ => rfl)) (pe_lst pa_nil) (by first | exact nomark _ | rfl)) (pe_ix (ixL K) (pe_dget hu (fldK K (pv 0) rfl) (pv 1) (fun _ _ => rfl)) (pe_un un_neg pe_int) (fun _ _ => rfl)) pe_non)))), ?_⟩
    wtm_at "go"
    refine ⟨h, di, dt, ai, ak, η, m, rfl, M, fun hm => ?_, fun hm => q1 hm⟩
    have q3 := q2 hm
    have hdi := M.di
    obtain ⟨us, eu, du⟩ := M.li m hm
    wtm_at "go"
    rename_i l H1 n1 m1 e1
    refine g_neD (.lst (SqL.of (m1.get0 eu)) (du.mx m1 noTup0).dp) (.lst (SqL.of e1) .nil) (shaped_cds _) (shaped_cds []) ?_
    rw [eqv_nil]
    wtm_at "go"
    refine g_ite (fun e => ?_) (fun e => ?_)
    · have hz : η.iss m ≠ [] := by simpa using e
      obtain ⟨t, z, ht, hzz, hv⟩ := du.last hz
      have el : lastD (η.iss m) = cdD z := by unfold lastD; rw [hzz]
      rw [el] at q3
      wtm_at "go"
      exact q3 _ _ m1 (.tup (.of (m1.get0 hv)) (.cons (.int _) (.cons (.int _) (.cons (.int _) (.cons (.int _) .nil)))))
    · have hz : η.iss m = [] := by simpa using e
      have el : lastD (η.iss m) = .none := by unfold lastD; rw [hz]; rfl
      rw [el] at q3
      wtm_at "go"
      exact q3 _ _ m1 .non
def spHTake (T : Tx K mg) : Sp := fun vs H Q E => ∃ (h di dt : Addr) (ai ak : Int → Addr) (η : Hs) (t : Addr) (z : Cd) (n : Nat), vs = [.ref h, .ref t] ∧ HsAt T.C_House H h di dt ai ak η ∧ Hin η.ms ai ak ∧ Hw n η ∧ n < 1000 ∧ H t = some (.tup z.vs) ∧ (∀ r, resH η (.tk z) = some r → E (.ref (r.at T)) none H) ∧
  (resH η (.tk z) = none → z.m ∈ η.ms → ∀ H', Mx [h, ak z.m] H H' → HsAt T.C_House H' h di dt ai ak (newH η (.tk z)) → Q (.int z.a) H')
theorem mt_House_take_back (T : Tx K mg) : Me P w K mg base 3 T.C_House "take_back" (spHTake T) [] := by
  refine T.m_House_take_back.me T.cls_House sc_House_take_back (fun vs H Q E h => ?_) (fun cdv A outer s H vs Q E hr h => ?_)
  · obtain ⟨_, _, _, _, _, _, _, _, _, rfl, _⟩ := h
    rfl
  · obtain ⟨h, di, dt, ai, ak, η, t, z, n, rfl, M, I, W, hn, ht, q1, q2⟩ := h
    have hu := hu_of hr
    obtain ⟨dx, ob⟩ := M.ob
    have hdt := M.dt
    have ht' : SqT K H t [.int z.m, .int z.c, .int z.a, .int z.s] := .of ht
    refine ⟨_, (pss_cons (ps_set (i := 2) sc_House_take_back.nd rfl (Or.inl rfl) (pe_ix (ixT K) (pv 1) pe_int (fun _ _ => rfl)))
      (pss_cons (ps_if (PW.pt (pw_or (pt_cmp (pc_dnotin hu (pv 2) (fldK K (pv 0) rfl)) rfl) (pw_or1 (pt_not (pt_val (q_call (c_is_good T) hr (by decide) rfl (passes_call (takes_of rfl rfl rfl rfl) (fun _ _ _ _ h => h)) (pa_cons (fldK K (pv 0) rfl) (pa_cons (pv 1) (pa_cons (pv 2) (pa_cons (pe_op op_add (pe_callB (cLen K) (by rfl) T.n_len (by decide +kernel) (pa_cons (pe_dget hu (fldK K (pv 0) rfl) (pv 2) (fun _ _ => rfl)) pa_nil)) pe_int) (pa_cons (q_const T.g_BACK rfl) pa_nil))))))))))) (pss_one (q_raise rfl (takes_of rfl rfl rfl rfl) T.x_BadCode rfl)) pss_nil)
      (pss_cons (ps_expr (bmK K PySem.F.plainAttrs_list PySem.F.slot_list_append PySem.F.type_list_append mt_append (pe_dget hu (fldK K (pv 0) rfl) (pv 2) (fun _ _ => rfl)) (pa_cons (pv 1) pa_nil)))
      (pss_cons (psFld K (pv 0) (pe_op op_add (fldK K (pv 0) rfl) (pe_ix (ixT K) (pv 1) pe_int (fun _ _ => rfl))) rfl)
      (pss_one (ps_ret (pe_ix (ixT K) (pv 1) pe_int (fun _ _ => rfl)))))))), ?_⟩
    wtm_at "go"
    rw [kvO_in]
    refine g_ite (fun e => ?_) (fun e => ?_)
    · refine g_yes rfl ?_
      wtm_at "go"
      exact q1 .code (by simp [resH]; intro hh; exact absurd hh (by simpa using e))
    · have hm : z.m ∈ η.ms := by simpa using e
      obtain ⟨us, eu, du⟩ := M.lk z.m hm
      have lu := du.len
      have hlk := W.lk z.m hm
      have hmb := W.mb z.m hm
      have hkk := W.kk
      wtm_at "go"
      rw [lu]
      refine ⟨_, t, z, _, _, _, rfl, ht, (by unfold Bd; omega), (by unfold Bd; omega), (by unfold Bd; omega), (by unfold Bd; omega), ?_⟩
      wtm_at "go"
      refine g_ite (fun e2 => ?_) (fun e2 => ?_)
      · wtm_at "go"
        exact q1 .code (by simp [resH, hm]; simpa using e2)
      · have q3 := q2 (by simp [resH, hm]; simpa using e2) hm
        wtm_at "go"
        rename_i H1 m1 e1
        have hne : ak z.m ≠ h := (ne_of ob eu fun z => nomatch z).symm
        have nt1 : NoTup H [ak z.m] := noTup1 eu
        have ob1 := m1 _ _ ob (by simpa using hne.symm)
        have ht1 : SqT K H1 t [.int z.m, .int z.c, .int z.a, .int z.s] := .of (mx_tup m1 nt1 ht)
        have M1 : HsAt T.C_House H1 h di dt ai ak { η with tkn := setM η.tkn z.m (η.tkn z.m ++ [z]) } := ⟨⟨dx, ob1⟩, m1 _ _ M.di (by simp; exact ne_of M.di eu fun z => nomatch z), m1 _ _ M.dt (by simp; exact ne_of M.dt eu fun z => nomatch z), M.li.mx m1 nt1 (fun j hj => by simp; exact fun q => I.i3 j hj z.m hm q), M.lk.push eu du m1 e1 ⟨t, rfl, ht⟩ fun j hj q => I.i2 j hj z.m hm q⟩
        have ob1' : H1 h = some (.ins T.C_House dx (hFlds { η with tkn := setM η.tkn z.m (η.tkn z.m ++ [z]) } di dt)) := ob1
        clear ob1
        wtm_at "go"
        rename_i H2 m2 e2
        have ht2 : SqT K H2 t [.int z.m, .int z.c, .int z.a, .int z.s] := .of (mx_tup m2 (noTupI ob1') (mx_tup m1 nt1 ht))
        wtm_at "go"
        exact q3 H2 ((m1.mono (by simp)).trans (m2.mono (by simp))) (M1.fld m2 e2 rfl rfl rfl)
end
end Fk
namespace Fk
open PySem PySem.Spec PyProof.Rows L2
local macro_rules | `(tactic| wtm_at "ln") => `(tactic| first
  | omega
  | (simp only [List.length_cons, List.length_nil, List.length_map, List.length_append, List.length_replicate, List.length_take, List.length_drop, List.length_set]; omega)
  | (with_unfolding_all exact (by decide)))
local macro_rules | `(tactic| wtm_at "ar") => `(tactic| first
  | ((with_reducible show CMulW _ _); (refine' mulS ?_ ?_ <;> omega))
  | ((with_reducible show CDivW _ _); (refine' divS ?_ ?_ <;> omega))
  | ((with_reducible show CPow _ _); exact ⟨by decide, by decide, by decide⟩)
  | (show (0 : Int) < _; omega)
  | (with_unfolding_all exact (by decide)))
local macro_rules | `(tactic| wtm_at "at") => `(tactic| first
  | assumption
  | (refine' cl_atE ?e80 ?h80; (case' e80 => first | exact rfl | assumption); (case' h80 => wtm_at "ln"))
  | exact rfl)
local macro_rules | `(tactic| wtm_at "fr") => `(tactic| first
  | assumption
  | ((with_reducible refine' Mx.free0 ?m99 ?h99); (case' h99 => assumption); (case' m99 => wtm_at "mo")))
local macro_rules | `(tactic| wtm_at "hp") => `(tactic| first
  | assumption
  | ((with_reducible refine' Mx.get0 ?m1 ?h1); (case' m1 => assumption); (case' h1 => wtm_at "hp"))
  | ((with_reducible refine' Mx.get ?m2 ?n2 ?h2); (case' m2 => assumption); (case' n2 => wtm_at "nin"); (case' h2 => wtm_at "hp")))
local macro_rules | `(tactic| wtm_at "sl") => `(tactic| first
  | assumption
  | ((with_reducible refine' Mx.sqL0 ?m96 ?h96); (case' h96 => assumption); (case' m96 => wtm_at "mo"))
  | (refine' SqL.of ?h3; (case' h3 => wtm_at "hp"))
  | ((with_reducible refine' Mx.sqL0 ?m4 ?h4); (case' m4 => assumption); (case' h4 => wtm_at "sl"))
  | ((with_reducible refine' Mx.sqL ?m5 ?n5 ?h5); (case' m5 => assumption); (case' n5 => wtm_at "nin"); (case' h5 => wtm_at "sl")))
local macro_rules | `(tactic| wtm_at "st") => `(tactic| first
  | assumption
  | ((with_reducible refine' Mx.sqT0 ?m97 ?h97); (case' h97 => assumption); (case' m97 => wtm_at "mo"))
  | (refine' SqT.of ?h6; (case' h6 => wtm_at "hp"))
  | ((with_reducible refine' Mx.sqT0 ?m7 ?h7); (case' m7 => assumption); (case' h7 => wtm_at "st"))
  | ((with_reducible refine' Mx.sqT ?m8 ?n8 ?h8); (case' m8 => assumption); (case' n8 => wtm_at "nin"); (case' h8 => wtm_at "st")))
local macro_rules | `(tactic| wtm_at "mx") => `(tactic| first
  | assumption
  | exact Mx.refl
  | ((with_reducible refine' Mx.of0 ?h9); (case' h9 => assumption))
  | ((with_reducible refine' Mx.trans ?h10 ?m10); (case' m10 => first | assumption | ((with_reducible refine' Mx.of0 ?q10); (case' q10 => assumption))); (case' h10 => wtm_at "mx")))
local macro_rules | `(tactic| wtm_at "mo") => `(tactic| first
  | wtm_at "mx"
  | ((with_reducible refine' Mx.own ?m90 ?f90 ?k90); (case' k90 => assumption); (case' f90 => wtm_at "fr"); (case' m90 => wtm_at "mo"))
  | ((with_reducible refine' Mx.trans ?h91 ?m91); (case' m91 => first | assumption | ((with_reducible refine' Mx.of0 ?q91); (case' q91 => assumption))); (case' h91 => wtm_at "mo")))
local macro_rules | `(tactic| wtm_at "ne") => `(tactic| first
  | assumption
  | exact Ne.symm (by assumption)
  | ((with_reducible refine' ne_of_none ?x94 ?y94); (case' y94 => assumption); (case' x94 => wtm_at "hp"))
  | ((with_reducible refine' Ne.symm (ne_of_none ?x95 ?y95)); (case' y95 => assumption); (case' x95 => wtm_at "hp")))
local macro_rules | `(tactic| wtm_at "nin") => `(tactic| first
  | assumption
  | exact List.not_mem_nil
  | ((with_reducible refine' List.not_mem_cons_of_ne_of_not_mem ?h98 ?t98); (case' h98 => wtm_at "ne"); (case' t98 => wtm_at "nin")))
local macro_rules | `(tactic| wtm_at "g1") => `(tactic| first
  | ((with_reducible refine' g_var ?h11 ?k11); (case' h11 => exact rfl))
  | with_reducible refine' g_c ?_
  | with_reducible refine' g_op ?_
  | with_reducible refine' g_I0 ?_
  | ((with_reducible refine' g_I ?c12 ?k12); (case' c12 => wtm_at "ar"))
  | with_reducible refine' g_cons ?_
  | with_reducible refine' g_nil ?_
  | with_reducible refine' g_seq ?_
  | with_reducible refine' g_asg ?_
  | with_reducible refine' g_name ?_
  | with_reducible refine' g_ret ?_
  | with_reducible refine' g_if ?_
  | with_reducible refine' g_test ?_
  | with_reducible refine' g_tB ?_
  | with_reducible refine' g_bl ?_
  | ((with_reducible refine' g_eq ?h13 ?k13); (case' h13 => exact rfl))
  | ((with_reducible refine' g_ne ?h14 ?k14); (case' h14 => exact rfl))
  | with_reducible refine' g_CB ?_
  | with_reducible refine' g_call ?_
  | with_reducible refine' g_drop ?_
  | with_reducible refine' g_next ?_
  | with_reducible refine' g_not ?_
  | with_reducible refine' g_and ?_
  | with_reducible refine' g_or ?_
  | with_reducible refine' g_un ?_
  | with_reducible refine' g_U ?_
  | with_reducible refine' g_tup ?_
  | with_reducible refine' g_lst ?_
  | ((with_reducible refine' g_kNew ?h15 ?k15); (case' h15 => wtm_at "ln"); (case' k15 => intro _ _ _ _ _))
  | ((with_reducible refine' g_ixL ?h16 ?a16 ?k16); (case' h16 => wtm_at "sl"); (case' a16 => wtm_at "at"))
  | ((with_reducible refine' g_ixT ?h17 ?a17 ?k17); (case' h17 => wtm_at "st"); (case' a17 => wtm_at "at"))
  | with_reducible refine' g_slice ?_
  | with_reducible refine' g_part ?_
  | with_reducible refine' g_kPart ?_
  | with_reducible refine' g_noPart ?_
  | ((with_reducible refine' g_slL ?h18 ?k18); (case' h18 => wtm_at "sl"); (case' k18 => intro _ _ _ _ _))
  | ((with_reducible refine' g_cat ?h119 ?h219 ?l19 ?k19); (case' h119 => wtm_at "hp"); (case' h219 => wtm_at "hp"); (case' l19 => wtm_at "ln"); (case' k19 => intro _ _ _ _ _))
  | ((with_reducible refine' g_rep ?h120 ?h220 ?h320 ?l20 ?k20); (case' h120 => wtm_at "hp"); (case' h220 => wtm_at "ln"); (case' h320 => wtm_at "ln"); (case' l20 => wtm_at "ln"); (case' k20 => intro _ _ _ _ _))
  | ((with_reducible refine' g_append ?h21 ?l21 ?k21); (case' h21 => wtm_at "hp"); (case' l21 => wtm_at "ln"); (case' k21 => intro _ _ _))
  | ((with_reducible refine' g_kBM ?h22 ?k22); (case' h22 => wtm_at "sl"))
  | ((with_reducible refine' g_kBM0 ?h23 ?k23); (case' h23 => wtm_at "sl"))
  | ((with_reducible refine' g_kL ?h24 ?k24); (case' h24 => wtm_at "sl"))
  | ((with_reducible refine' g_kR1 ?h125 ?h225 ?k25); (case' h125 => wtm_at "ln"); (case' h225 => wtm_at "ln"))
  | ((with_reducible refine' g_kR2 ?h126 ?h226 ?h326 ?h426 ?k26); (case' h126 => wtm_at "ln"); (case' h226 => wtm_at "ln"); (case' h326 => wtm_at "ln"); (case' h426 => wtm_at "ln"))
  | ((with_reducible refine' g_lenL ?h27 ?k27); (case' h27 => wtm_at "sl"))
  | ((with_reducible refine' g_lenT ?h28 ?k28); (case' h28 => wtm_at "st"))
  | ((with_reducible refine' g_listL ?h29 ?k29); (case' h29 => wtm_at "sl"); (case' k29 => intro _ _ _ _ _))
  | ((with_reducible refine' g_tupleL ?h30 ?k30); (case' h30 => wtm_at "sl"); (case' k30 => intro _ _ _ _ _))
  | with_reducible refine' g_max ?_
  | with_reducible refine' g_min ?_
  | with_reducible refine' g_intB ?_
  | with_reducible refine' g_fld ?_
  | with_reducible refine' g_put ?_
  | with_reducible refine' g_dget ?_
  | with_reducible refine' g_isN ?_
  | with_reducible refine' g_notN ?_
  | with_reducible refine' g_ifE ?_
  | with_reducible refine' g_andV ?_
  | with_reducible refine' g_orV ?_
  | with_reducible refine' g_notV ?_
  | with_reducible refine' g_kIf ?_
  | with_reducible refine' g_chain ?_
  | with_reducible refine' g_kCh ?_
  | with_reducible refine' g_sub ?_
  | ((with_reducible refine' g_setI ?h92 ?e92 ?j92 ?k92); (case' h92 => wtm_at "hp"); (case' e92 => first | exact rfl | assumption); (case' j92 => wtm_at "ln"); (case' k92 => intro _ _ _))
  | ((with_reducible refine' g_setL ?h89 ?i89 ?k89); (case' h89 => wtm_at "hp"); (case' i89 => exact ixE rfl (by wtm_at "ln")); (case' k89 => intro _ _ _))
  | ((with_reducible refine' g_gtup ?h93 ?e93 ?k93); (case' h93 => wtm_at "st"); (case' e93 => exact rfl))
  | with_reducible refine' g_gcons ?_
  | with_reducible refine' g_gnil ?_
  | with_reducible refine' g_par ?_
  | with_reducible refine' g_kPar ?_
  | with_reducible refine' g_meth ?_
  | with_reducible refine' g_bm ?_
  | with_reducible refine' g_bm0 ?_
  | with_reducible refine' g_raise ?_
  | with_reducible refine' g_for ?_
  | with_reducible refine' g_iR1 ?_
  | with_reducible refine' g_iR2 ?_
  | with_reducible refine' g_iL ?_
  | with_reducible refine' g_lc ?_
  | with_reducible refine' g_retN ?_
  | with_reducible refine' g_no (b := false) rfl ?_
  | with_reducible refine' g_yes (b := true) rfl ?_)
local macro_rules | `(tactic| wtm_at "go") => `(tactic| repeat (wtm_at "g1"))
local macro_rules | `(tactic| wtm_at "gs") => `(tactic| repeat ((fail_if_success (with_reducible refine' g_ifE ?_)); wtm_at "g1"))
local macro_rules | `(tactic| wtm_at "gi") => `(tactic| repeat ((fail_if_success (with_reducible refine' g_if ?_)); wtm_at "g1"))
local macro_rules | `(tactic| wtm_at "gr") => `(tactic| repeat ((fail_if_success (with_reducible refine' g_ret ?_)); wtm_at "g1"))
local macro_rules | `(tactic| wtm_at "gq") => `(tactic| repeat ((fail_if_success (with_reducible refine' g_asg ?_)); wtm_at "g1"))
/-! ### a dict of new lists, one for each meter -/
theorem paired_imp {α β : Type} {F G : α → β → Prop} (h : ∀ x y, F x y → G x y) : ∀ {xs : List α} {ys : List β}, Paired F xs ys → Paired G xs ys
  | _, _, .nil => .nil
  | _, _, .cons a r => .cons (h _ _ a) (paired_imp h r)
theorem g_yesH {σ : L2.St} {H : Hp} {QB : Bool → Hp → Prop} (k : QB true H) : tYes σ H QB := k
theorem kvO_congr {ms : List Int} {a b : Int → Addr} (h : ∀ m ∈ ms, a m = b m) : kvO ms a = kvO ms b := List.map_congr_left fun m hm => by rw [h m hm]
theorem g_lcPairs {K : PySem.W.Frag} {σ : L2.St} {H : Hp} {Q : VK} {a : Addr} {ms : List Int} {j : Nat} {vs : List Nat} (hw : ∀ x, wipe ((wipe σ vs).set j (some x)) vs = wipe σ vs) (hv : ∀ x, ((wipe σ vs).set j (some x))[j]? = some (some x)) (hx : SqL K H a (ms.map V.int)) (nd : ms.Nodup) (hn : ms.length ≤ 100)
    (hd : ∀ Dl H' ps (b : Int → Addr), H Dl = none → Mx [] H H' → H' Dl = some (.lst (ps.map V.ref)) → Paired (fun p kv => SqT K H' p [kV kv.1, kv.2]) ps (kvO ms b) → (∀ m ∈ ms, H' (b m) = some (.lst []) ∧ H (b m) = none) → (∀ m ∈ ms, ∀ m' ∈ ms, b m = b m' → m = m') → Q (.ref Dl) H') :
    kLc (gName j) tYes (tTup (tCons (tVar j) (tCons (tLst tNil) tNil))) vs σ Q (Itl K a) H := by
  intro Dl hDl
  refine lc_list (xs := ms.map V.int) (fun i H' => i ≤ ms.length ∧ Mx [] H H' ∧ ∃ (ps : List Addr) (b : Int → Addr), H' Dl = some (.lst (ps.map V.ref)) ∧ ps.length = i ∧ Paired (fun p kv => H' p = some (.tup [kV kv.1, kv.2])) ps (kvO (ms.take i) b) ∧ (∀ m ∈ ms.take i, H' (b m) = some (.lst []) ∧ H (b m) = none ∧ b m ≠ Dl) ∧ (∀ m ∈ ms.take i, ∀ m' ∈ ms.take i, b m = b m' → m = m'))
    ⟨Nat.zero_le _, .new hDl, [], fun _ => 0, upd_same, rfl, .nil, by simp, by simp⟩ (fun i H' _ hp => hp.2.1.sqL0 hx) (fun i x H' hxi hp => ?_) (fun H' hp => ?_)
  · obtain ⟨le, m, ps, b, e, lp, pr, ls, inj⟩ := hp
    rw [List.getElem?_map, Option.map_eq_some_iff] at hxi
    obtain ⟨mm, hmm, rfl⟩ := hxi
    have hlt := (List.getElem?_eq_some_iff.mp hmm).1
    have htake : ms.take (i + 1) = ms.take i ++ [mm] := by rw [List.take_add_one, hmm]; rfl
    have hnot : mm ∉ ms.take i := fun hin => by
      have nd2 : (ms.take (i + 1)).Nodup := nd.sublist (List.take_sublist _ _)
      rw [htake, List.nodup_append] at nd2
      exact nd2.2.2 mm hin mm (by simp) rfl
    refine ⟨hw _, ?_⟩
    refine g_yesH ?_
    rw [if_pos rfl]
    refine g_tup (g_cons (g_var (hv _) (g_cons (g_lst (g_nil (g_kNew (by simp) fun l H1 n1 m1 e1 => g_nil (g_kNew (by simp) fun t H2 n2 m2 e2 => ?_)))))))
    have c2 := m1.trans m2
    have eD := c2.get0 e
    have lD : l ≠ Dl := (ne_of_none e n1).symm
    have hl0 : H l = none := m.free0 n1
    refine ⟨ps.map V.ref, eD, lineL (by rw [List.length_map]; omega), hlt, upd_Mx hDl (m.trans c2), ps ++ [t], setM b mm l, by rw [upd_same, List.map_append]; rfl, by rw [List.length_append, lp]; rfl, ?_, fun k hk => ?_, fun k hk k' hk' hkk => ?_⟩
    · rw [htake]
      have e1' : kvO (ms.take i ++ [mm]) (setM b mm l) = kvO (ms.take i) b ++ [(Sum.inl mm, V.ref l)] := by
        have : kvO (ms.take i ++ [mm]) (setM b mm l) = kvO (ms.take i) (setM b mm l) ++ [(Sum.inl mm, V.ref (setM b mm l mm))] := by unfold kvO; rw [List.map_append]; rfl
        rw [this, setM_same, kvO_congr (b := b) fun k hk => setM_ne fun z => hnot (by rw [← z]; exact hk)]
      rw [e1']
      refine .snoc (paired_imp (fun p kv h => ?_) pr) ?_
      · rw [upd_ne (ne_of (c2.get0 h) eD fun z => nomatch z)]; exact c2.get0 h
      · rw [upd_ne (ne_of e2 eD fun z => nomatch z)]; exact e2
    · rw [htake] at hk
      by_cases hz : k = mm
      · subst hz
        rw [setM_same, upd_ne lD]
        exact ⟨m2.get0 e1, hl0, lD⟩
      · have hk' : k ∈ ms.take i := by
          rcases List.mem_append.mp hk with q | q
          · exact q
          · exact absurd (List.mem_singleton.mp q) hz
        obtain ⟨q1, q2, q3⟩ := ls k hk'
        rw [setM_ne hz, upd_ne q3]
        exact ⟨c2.get0 q1, q2, q3⟩
    · rw [htake] at hk hk'
      have old : ∀ k ∈ ms.take i, b k ≠ l := fun k hk z => by
        have := (ls k hk).1
        rw [z, n1] at this
        cases this
      have mem : ∀ {k}, k ∈ ms.take i ++ [mm] → k ≠ mm → k ∈ ms.take i := fun {k} h hz => by
        rcases List.mem_append.mp h with q | q
        · exact q
        · exact absurd (List.mem_singleton.mp q) hz
      by_cases h1 : k = mm <;> by_cases h2 : k' = mm
      · rw [h1, h2]
      · rw [h1, setM_same, setM_ne h2] at hkk
        exact absurd hkk.symm (old _ (mem hk' h2))
      · rw [h2, setM_same, setM_ne h1] at hkk
        exact absurd hkk (old _ (mem hk h1))
      · rw [setM_ne h1, setM_ne h2] at hkk
        exact inj _ (mem hk h1) _ (mem hk' h2) hkk
  · obtain ⟨_, m, ps, b, e, lp, pr, ls, inj⟩ := hp
    rw [List.length_map, List.take_length] at pr ls inj
    exact hd Dl H' ps b hDl m e (paired_imp (fun _ _ h => .of h) pr) (fun k hk => ⟨(ls k hk).1, (ls k hk).2.1⟩) inj
section
variable {P : Program} {w : World} {K : PySem.W.Frag} {mg : Str → Option Value} {base : Heap}
local macro_rules | `(tactic| wtm_at "g1") => `(tactic| first
  | ((with_reducible refine' g_hKey (by assumption) ?h501 ?k501); (case' h501 => wtm_at "hp"))
  | ((with_reducible refine' g_hMon (by assumption) ?h502 ?k502); (case' h502 => wtm_at "hp"))
  | ((with_reducible refine' g_hSpe (by assumption) ?h503 ?k503); (case' h503 => wtm_at "hp"))
  | ((with_reducible refine' g_hIss (by assumption) ?h504 ?k504); (case' h504 => wtm_at "hp"))
  | ((with_reducible refine' g_hTak (by assumption) ?h505 ?k505); (case' h505 => wtm_at "hp"))
  | ((with_reducible refine' g_hpMon (by assumption) ?h506 ?k506); (case' h506 => wtm_at "hp"); (case' k506 => intro _ _ _))
  | ((with_reducible refine' g_hpSpe (by assumption) ?h507 ?k507); (case' h507 => wtm_at "hp"); (case' k507 => intro _ _ _))
  | ((with_reducible refine' g_kMeth ?h508 ?l508 ?k508); (case' h508 => wtm_at "hp"); (case' l508 => exact rfl))
  | ((with_reducible refine' g_kDGetI ?h509 ?l509 ?k509); (case' h509 => wtm_at "hp"); (case' l509 => wtm_at "kv"))
  | (with_reducible refine' g_dni ?_)
  | ((with_reducible refine' g_kDNi ?h510 ?k510); (case' h510 => wtm_at "hp"))
  | (with_reducible refine' g_lenSet ?_))
local macro_rules | `(tactic| wtm_at "kv") => `(tactic| first
  | exact kvO_get (by assumption)
  | exact rfl)

theorem g_dictP {H : Hp} {Q : VK} {Dl : Addr} {ps : List Addr} {ms : List Int} {b : Int → Addr} (e : H Dl = some (.lst (ps.map V.ref))) (pr : Paired (fun p kv => SqT K H p [kV kv.1, kv.2]) ps (kvO ms b)) (nd : ms.Nodup) (k : ∀ p H', H p = none → Mx [] H H' → H' p = some (.dK (kvO ms b)) → Q (.ref p) H') : rDictP K [.ref Dl] H Q :=
  ⟨Dl, ps, kvO ms b, rfl, SqL.of e, pr, fun p hp => k p _ hp (.new hp) (by rw [upd_same, kvO_merge nd])⟩
theorem CdL.new {H : Hp} {ms : List Int} {b : Int → Addr} (h : ∀ m ∈ ms, H (b m) = some (.lst [])) : CdL H ms b (fun _ => []) := fun m hm => ⟨[], h m hm, trivial⟩
def newHs (k : Int) (ms : List Int) : Hs := ⟨k, 0, 0, ms, fun _ => [], fun _ => []⟩
def spHInit (T : Tx K mg) : Sp := fun vs H Q _ => ∃ (p dx a : Addr) (k : Int) (ms : List Int), vs = [.ref p, .int k, .ref a] ∧ H p = some (.ins T.C_House dx []) ∧ SqL K H a (ms.map V.int) ∧ (0 ≤ k ∧ k ≤ 999981) ∧ (1 ≤ ms.length ∧ ms.length ≤ 4) ∧ ms.Nodup ∧ (∀ m ∈ ms, 1 ≤ m ∧ m ≤ 9999) ∧
  ∀ di dt ai ak H', (∀ x ∈ di :: dt :: (ms.map ai ++ ms.map ak), H x = none) → Mx [p] H H' → HsAt T.C_House H' p di dt ai ak (newHs k ms) → Hin ms ai ak → Q .non H'
theorem mt_House___init__ (T : Tx K mg) : Me P w K mg base 2 T.C_House "__init__" (spHInit T) [] := by
  refine T.m_House___init__.me T.cls_House sc_House___init__ (fun vs H Q E h => ?_) (fun cdv A outer s H vs Q E hr h => ?_)
  · obtain ⟨_, _, _, _, _, rfl, _⟩ := h
    rfl
  · obtain ⟨p, dx, a, k, ms, rfl, hp, hS, hk, hl, nd, hm, q⟩ := h
    have hu := hu_of hr
    refine ⟨_, (pss_cons (ps_expr (q_call (c_need_key T) hr (by decide) rfl (passes_call (takes_of rfl rfl rfl rfl) (fun _ _ _ _ h => h)) (pa_cons (pv 1) pa_nil)))
      (pss_cons (ps_if (PW.pt (pw_or (pt_not (pt_chain op_le op_le pe_int (pe_callB (cLen K) (by rfl) T.n_len (by decide +kernel) (pa_cons (pv 2) pa_nil)) (q_const T.g_MOST_METERS rfl))) (pw_or1 (pt_cmpR op_ne (lenSetK K rfl T.n_len rfl T.n_set (pv 2)) (pe_callB (cLen K) (by rfl) T.n_len (by decide +kernel) (pa_cons (pv 2) pa_nil)) (by first | exact nomark _ | rfl))))) (pss_one (q_raise rfl (takes_of rfl rfl rfl rfl) T.x_BadNumber rfl)) pss_nil)
      (pss_cons (ps_for (passes_of rfl) rfl (piL K (pv 2)) (pg_name (i := 3) sc_House___init__.nd rfl (Or.inl rfl))
      (pss_one (ps_expr (q_call (c_need_number T) hr (by decide) rfl (passes_call (takes_of rfl rfl rfl rfl) (fun _ _ _ _ h => h)) (pa_cons (pv 3) pa_nil)))))
      (pss_cons (psFld K (pv 0) (pv 1) rfl)
      (pss_cons (psFld K (pv 0) pe_int rfl)
      (pss_cons (psFld K (pv 0) pe_int rfl)
      (pss_cons (psFld K (pv 0) (pe_callTy (cDictP K rfl) (by rfl) T.n_dict (by decide +kernel) (pa_cons (pe_lc (own := [("meter", 3)]) (g := gName 3) rfl sc_House___init__.nd (piL K (pv 2)) (blkOk_by (own := [("meter", 3)]) (N := N_House___init__) (sc := defScope s_House___init__) (by decide +kernel)) (fun _ _ _ _ _ => pg_name (i := 3) sc_House___init__.nd rfl (by first | exact Or.inl rfl | exact Or.inr rfl)) (fun _ _ _ _ _ => pts_nil) (fun _ _ _ _ _ => (pe_tup (pa_cons (pv 3) (pa_cons (pe_lst pa_nil) pa_nil))))) pa_nil)) rfl)
      (pss_one (psFld K (pv 0) (pe_callTy (cDictP K rfl) (by rfl) T.n_dict (by decide +kernel) (pa_cons (pe_lc (own := [("meter", 3)]) (g := gName 3) rfl sc_House___init__.nd (piL K (pv 2)) (blkOk_by (own := [("meter", 3)]) (N := N_House___init__) (sc := defScope s_House___init__) (by decide +kernel)) (fun _ _ _ _ _ => pg_name (i := 3) sc_House___init__.nd rfl (by first | exact Or.inl rfl | exact Or.inr rfl)) (fun _ _ _ _ _ => pts_nil) (fun _ _ _ _ _ => (pe_tup (pa_cons (pv 3) (pa_cons (pe_lst pa_nil) pa_nil))))) pa_nil)) rfl))))))))), ?_⟩
    wtm_at "go"
    refine ⟨k, rfl, fun _ => ?_, fun z => absurd hk z⟩
    wtm_at "gi"
    refine g_cutS (fun N => N [some (.ref p), some (.int k), some (.ref a), none] H) (fun N hN => ?_) ?_
    · wtm_at "go"
      rw [List.length_map]
      refine g_yes (by simp; omega) ?_
      wtm_at "go"
      refine g_no (by simp; omega) ?_
      wtm_at "go"
      refine ⟨a, ms, rfl, hS, nd, by omega, ?_⟩
      wtm_at "go"
      refine g_no (by simp) ?_
      wtm_at "go"
      exact hN
    · wtm_at "go"
      refine g_forL (xs := ms.map V.int) (fun i σ' H' => ∃ x, σ' = [some (.ref p), some (.int k), some (.ref a), x] ∧ H = H')
        ⟨none, rfl, rfl⟩ (fun i σ' H' _ hP => ?_) (fun i x σ' H' hx hP => ?_) (fun σ' H' hP => ?_)
      · obtain ⟨_, _, rfl⟩ := hP
        exact hS
      · obtain ⟨x0, rfl, rfl⟩ := hP
        rw [List.getElem?_map, Option.map_eq_some_iff] at hx
        obtain ⟨m, hmm, rfl⟩ := hx
        wtm_at "go"
        refine ⟨m, rfl, fun _ => ?_, fun z => absurd (hm m (List.mem_of_getElem? hmm)) z⟩
        wtm_at "go"
        exact ⟨_, rfl, rfl⟩
      · obtain ⟨x0, rfl, rfl⟩ := hP
        wtm_at "go"
        refine g_kPut hp T.cls_House T.na_House_key rfl (by decide) fun H1 m1 e1 => ?_
        wtm_at "go"
        refine g_kPut e1 T.cls_House T.na_House_money rfl (by show 1 < 1000; decide) fun H2 m2 e2 => ?_
        wtm_at "go"
        refine g_kPut e2 T.cls_House T.na_House_spent rfl (by show 2 < 1000; decide) fun H3 m3 e3 => ?_
        have c3 := (m1.trans m2).trans m3
        have nap : a ∉ [p] ∨ True := .inr trivial
        have hS3 : SqL K H3 a (ms.map V.int) := by
          rcases hS with (h | ⟨o, h⟩) | h
          · exact .inl (.inl (c3 _ _ h (by simp; exact (ne_of hp h fun z => nomatch z).symm)))
          · exact .inl (.inr ⟨o, c3 _ _ h (by simp; exact (ne_of hp h fun z => nomatch z).symm)⟩)
          · exact .inr h
        clear m1 e1 m2 e2 m3 nap
        wtm_at "go"
        refine g_lcPairs (by intro x; rfl) (by intro x; rfl) hS3 nd (by omega) fun Dl H4 ps ai hD m4 eD pr ls inj => ?_
        wtm_at "go"
        refine g_dictP eD pr nd fun di H5 n5 m5 e5 => ?_
        wtm_at "go"
        have c5 := m4.trans m5
        refine g_kPut (c5.get0 e3) T.cls_House T.na_House_issues rfl (by show 3 < 1000; decide) fun H6 m6 e6 => ?_
        have p5 : ∀ x, H5 x ≠ none → x ≠ p → H6 x = H5 x := fun x hx hxp => by
          cases e : H5 x with
          | none => exact absurd e hx
          | some o => exact m6 _ _ e (by simpa using hxp)
        have hS6 : SqL K H6 a (ms.map V.int) := by
          rcases c5.sqL0 hS3 with (h | ⟨o, h⟩) | h
          · exact .inl (.inl (m6 _ _ h (by simp; exact (ne_of (c5.get0 e3) h fun z => nomatch z).symm)))
          · exact .inl (.inr ⟨o, m6 _ _ h (by simp; exact (ne_of (c5.get0 e3) h fun z => nomatch z).symm)⟩)
          · exact .inr h
        have ed6 := m6 _ _ e5 (by simp; exact (ne_of (c5.get0 e3) e5 fun z => nomatch z).symm)
        have ls6 : ∀ m ∈ ms, H6 (ai m) = some (.lst []) := fun m hm => m6 _ _ (m5.get0 (ls m hm).1) (by simp; exact (ne_of (c5.get0 e3) (m5.get0 (ls m hm).1) fun z => nomatch z).symm)
        wtm_at "go"
        refine g_lcPairs (by intro x; rfl) (by intro x; rfl) hS6 nd (by omega) fun Dl2 H7 ps2 ak hD2 m7 eD2 pr2 lk inj2 => ?_
        wtm_at "go"
        refine g_dictP eD2 pr2 nd fun dt H8 n8 m8 e8 => ?_
        wtm_at "go"
        have c8 := m7.trans m8
        refine g_kPut (c8.get0 e6) T.cls_House T.na_House_taken rfl (by show 4 < 1000; decide) fun H9 m9 e9 => ?_
        have pp8 := c8.get0 e6
        have fr3 : ∀ x, H3 x = none → H x = none := fun x hx => c3.free hx (by simp; rintro rfl; rw [e3] at hx; cases hx)
        have fr6 : ∀ x, H6 x = none → H x = none := fun x hx => fr3 x (c5.free0 (m6.free hx (by simp; rintro rfl; rw [e6] at hx; cases hx)))
        wtm_at "go"
        refine q di dt ai ak H9 (fun x hx => ?_) (((c3.trans c5.of0).trans m6).trans (c8.of0.trans m9)) ⟨⟨dx, e9⟩, ?_, ?_, ?_, ?_⟩ ⟨inj, inj2, fun m hm m' hm' z => ?_⟩
        · simp only [List.mem_cons, List.mem_append, List.mem_map] at hx
          rcases hx with rfl | rfl | ⟨m, hm, rfl⟩ | ⟨m, hm, rfl⟩
          · exact fr3 _ (m4.free0 n5)
          · exact fr6 _ (m7.free0 n8)
          · exact fr3 _ (ls m hm).2
          · exact fr6 _ (lk m hm).2
        · exact m9 _ _ (c8.get0 ed6) (by simp; exact (ne_of pp8 (c8.get0 ed6) fun z => nomatch z).symm)
        · exact m9 _ _ e8 (by simp; exact (ne_of pp8 e8 fun z => nomatch z).symm)
        · exact CdL.new fun m hm => m9 _ _ (c8.get0 (ls6 m hm)) (by simp; exact (ne_of pp8 (c8.get0 (ls6 m hm)) fun z => nomatch z).symm)
        · exact CdL.new fun m hm => m9 _ _ (m8.get0 (lk m hm).1) (by simp; exact (ne_of pp8 (m8.get0 (lk m hm).1) fun z => nomatch z).symm)
        · have h1 := ls6 m hm
          rw [z, (lk m' hm').2] at h1
          cases h1
theorem mk_House (T : Tx K mg) : Ma P w K mg base 2 "House" T.C_House (spHInit T) [] := by
  obtain ⟨f, fd, ps, ds, _, m, F, b, d⟩ := (mt_House___init__ (P := P) (w := w) (base := base) T).ex
  exact ⟨f, fd, ps, ds, ⟨T.mk_House_, m.at_, m.fn, T.kc_House⟩, F, T.g_House, b, d⟩
end
end Fk
namespace Fk
open PySem PySem.Spec PyProof.Rows L2
local macro_rules | `(tactic| wtm_at "ln") => `(tactic| first
  | omega
  | (simp only [List.length_cons, List.length_nil, List.length_map, List.length_append, List.length_replicate, List.length_take, List.length_drop, List.length_set]; omega)
  | (with_unfolding_all exact (by decide)))
local macro_rules | `(tactic| wtm_at "ar") => `(tactic| first
  | ((with_reducible show CMulW _ _); (refine' mulS ?_ ?_ <;> omega))
  | ((with_reducible show CDivW _ _); (refine' divS ?_ ?_ <;> omega))
  | ((with_reducible show CPow _ _); exact ⟨by decide, by decide, by decide⟩)
  | (show (0 : Int) < _; omega)
  | (with_unfolding_all exact (by decide)))
local macro_rules | `(tactic| wtm_at "at") => `(tactic| first
  | assumption
  | (refine' cl_atE ?e80 ?h80; (case' e80 => first | exact rfl | assumption); (case' h80 => wtm_at "ln"))
  | exact rfl)
local macro_rules | `(tactic| wtm_at "fr") => `(tactic| first
  | assumption
  | ((with_reducible refine' Mx.free0 ?m99 ?h99); (case' h99 => assumption); (case' m99 => wtm_at "mo")))
local macro_rules | `(tactic| wtm_at "hp") => `(tactic| first
  | assumption
  | ((with_reducible refine' Mx.get0 ?m1 ?h1); (case' m1 => assumption); (case' h1 => wtm_at "hp"))
  | ((with_reducible refine' Mx.get ?m2 ?n2 ?h2); (case' m2 => assumption); (case' n2 => wtm_at "nin"); (case' h2 => wtm_at "hp")))
local macro_rules | `(tactic| wtm_at "sl") => `(tactic| first
  | assumption
  | ((with_reducible refine' Mx.sqL0 ?m96 ?h96); (case' h96 => assumption); (case' m96 => wtm_at "mo"))
  | (refine' SqL.of ?h3; (case' h3 => wtm_at "hp"))
  | ((with_reducible refine' Mx.sqL0 ?m4 ?h4); (case' m4 => assumption); (case' h4 => wtm_at "sl"))
  | ((with_reducible refine' Mx.sqL ?m5 ?n5 ?h5); (case' m5 => assumption); (case' n5 => wtm_at "nin"); (case' h5 => wtm_at "sl")))
local macro_rules | `(tactic| wtm_at "st") => `(tactic| first
  | assumption
  | ((with_reducible refine' Mx.sqT0 ?m97 ?h97); (case' h97 => assumption); (case' m97 => wtm_at "mo"))
  | (refine' SqT.of ?h6; (case' h6 => wtm_at "hp"))
  | ((with_reducible refine' Mx.sqT0 ?m7 ?h7); (case' m7 => assumption); (case' h7 => wtm_at "st"))
  | ((with_reducible refine' Mx.sqT ?m8 ?n8 ?h8); (case' m8 => assumption); (case' n8 => wtm_at "nin"); (case' h8 => wtm_at "st")))
local macro_rules | `(tactic| wtm_at "mx") => `(tactic| first
  | assumption
  | exact Mx.refl
  | ((with_reducible refine' Mx.of0 ?h9); (case' h9 => assumption))
  | ((with_reducible refine' Mx.trans ?h10 ?m10); (case' m10 => first | assumption | ((with_reducible refine' Mx.of0 ?q10); (case' q10 => assumption))); (case' h10 => wtm_at "mx")))
local macro_rules | `(tactic| wtm_at "mo") => `(tactic| first
  | wtm_at "mx"
  | ((with_reducible refine' Mx.own ?m90 ?f90 ?k90); (case' k90 => assumption); (case' f90 => wtm_at "fr"); (case' m90 => wtm_at "mo"))
  | ((with_reducible refine' Mx.trans ?h91 ?m91); (case' m91 => first | assumption | ((with_reducible refine' Mx.of0 ?q91); (case' q91 => assumption))); (case' h91 => wtm_at "mo")))
local macro_rules | `(tactic| wtm_at "ne") => `(tactic| first
  | assumption
  | exact Ne.symm (by assumption)
  | ((with_reducible refine' ne_of_none ?x94 ?y94); (case' y94 => assumption); (case' x94 => wtm_at "hp"))
  | ((with_reducible refine' Ne.symm (ne_of_none ?x95 ?y95)); (case' y95 => assumption); (case' x95 => wtm_at "hp")))
local macro_rules | `(tactic| wtm_at "nin") => `(tactic| first
  | assumption
  | exact List.not_mem_nil
  | ((with_reducible refine' List.not_mem_cons_of_ne_of_not_mem ?h98 ?t98); (case' h98 => wtm_at "ne"); (case' t98 => wtm_at "nin")))
local macro_rules | `(tactic| wtm_at "g1") => `(tactic| first
  | ((with_reducible refine' g_var ?h11 ?k11); (case' h11 => exact rfl))
  | with_reducible refine' g_c ?_
  | with_reducible refine' g_op ?_
  | with_reducible refine' g_I0 ?_
  | ((with_reducible refine' g_I ?c12 ?k12); (case' c12 => wtm_at "ar"))
  | with_reducible refine' g_cons ?_
  | with_reducible refine' g_nil ?_
  | with_reducible refine' g_seq ?_
  | with_reducible refine' g_asg ?_
  | with_reducible refine' g_name ?_
  | with_reducible refine' g_ret ?_
  | with_reducible refine' g_if ?_
  | with_reducible refine' g_test ?_
  | with_reducible refine' g_tB ?_
  | with_reducible refine' g_bl ?_
  | ((with_reducible refine' g_eq ?h13 ?k13); (case' h13 => exact rfl))
  | ((with_reducible refine' g_ne ?h14 ?k14); (case' h14 => exact rfl))
  | with_reducible refine' g_CB ?_
  | with_reducible refine' g_call ?_
  | with_reducible refine' g_drop ?_
  | with_reducible refine' g_next ?_
  | with_reducible refine' g_not ?_
  | with_reducible refine' g_and ?_
  | with_reducible refine' g_or ?_
  | with_reducible refine' g_un ?_
  | with_reducible refine' g_U ?_
  | with_reducible refine' g_tup ?_
  | with_reducible refine' g_lst ?_
  | ((with_reducible refine' g_kNew ?h15 ?k15); (case' h15 => wtm_at "ln"); (case' k15 => intro _ _ _ _ _))
  | ((with_reducible refine' g_ixL ?h16 ?a16 ?k16); (case' h16 => wtm_at "sl"); (case' a16 => wtm_at "at"))
  | ((with_reducible refine' g_ixT ?h17 ?a17 ?k17); (case' h17 => wtm_at "st"); (case' a17 => wtm_at "at"))
  | with_reducible refine' g_slice ?_
  | with_reducible refine' g_part ?_
  | with_reducible refine' g_kPart ?_
  | with_reducible refine' g_noPart ?_
  | ((with_reducible refine' g_slL ?h18 ?k18); (case' h18 => wtm_at "sl"); (case' k18 => intro _ _ _ _ _))
  | ((with_reducible refine' g_cat ?h119 ?h219 ?l19 ?k19); (case' h119 => wtm_at "hp"); (case' h219 => wtm_at "hp"); (case' l19 => wtm_at "ln"); (case' k19 => intro _ _ _ _ _))
  | ((with_reducible refine' g_rep ?h120 ?h220 ?h320 ?l20 ?k20); (case' h120 => wtm_at "hp"); (case' h220 => wtm_at "ln"); (case' h320 => wtm_at "ln"); (case' l20 => wtm_at "ln"); (case' k20 => intro _ _ _ _ _))
  | ((with_reducible refine' g_append ?h21 ?l21 ?k21); (case' h21 => wtm_at "hp"); (case' l21 => wtm_at "ln"); (case' k21 => intro _ _ _))
  | ((with_reducible refine' g_kBM ?h22 ?k22); (case' h22 => wtm_at "sl"))
  | ((with_reducible refine' g_kBM0 ?h23 ?k23); (case' h23 => wtm_at "sl"))
  | ((with_reducible refine' g_kL ?h24 ?k24); (case' h24 => wtm_at "sl"))
  | ((with_reducible refine' g_kR1 ?h125 ?h225 ?k25); (case' h125 => wtm_at "ln"); (case' h225 => wtm_at "ln"))
  | ((with_reducible refine' g_kR2 ?h126 ?h226 ?h326 ?h426 ?k26); (case' h126 => wtm_at "ln"); (case' h226 => wtm_at "ln"); (case' h326 => wtm_at "ln"); (case' h426 => wtm_at "ln"))
  | ((with_reducible refine' g_lenL ?h27 ?k27); (case' h27 => wtm_at "sl"))
  | ((with_reducible refine' g_lenT ?h28 ?k28); (case' h28 => wtm_at "st"))
  | ((with_reducible refine' g_listL ?h29 ?k29); (case' h29 => wtm_at "sl"); (case' k29 => intro _ _ _ _ _))
  | ((with_reducible refine' g_tupleL ?h30 ?k30); (case' h30 => wtm_at "sl"); (case' k30 => intro _ _ _ _ _))
  | with_reducible refine' g_max ?_
  | with_reducible refine' g_min ?_
  | with_reducible refine' g_intB ?_
  | with_reducible refine' g_fld ?_
  | with_reducible refine' g_put ?_
  | with_reducible refine' g_dget ?_
  | with_reducible refine' g_isN ?_
  | with_reducible refine' g_notN ?_
  | with_reducible refine' g_ifE ?_
  | with_reducible refine' g_andV ?_
  | with_reducible refine' g_orV ?_
  | with_reducible refine' g_notV ?_
  | with_reducible refine' g_kIf ?_
  | with_reducible refine' g_chain ?_
  | with_reducible refine' g_kCh ?_
  | with_reducible refine' g_sub ?_
  | ((with_reducible refine' g_setI ?h92 ?e92 ?j92 ?k92); (case' h92 => wtm_at "hp"); (case' e92 => first | exact rfl | assumption); (case' j92 => wtm_at "ln"); (case' k92 => intro _ _ _))
  | ((with_reducible refine' g_setL ?h89 ?i89 ?k89); (case' h89 => wtm_at "hp"); (case' i89 => exact ixE rfl (by wtm_at "ln")); (case' k89 => intro _ _ _))
  | ((with_reducible refine' g_gtup ?h93 ?e93 ?k93); (case' h93 => wtm_at "st"); (case' e93 => exact rfl))
  | with_reducible refine' g_gcons ?_
  | with_reducible refine' g_gnil ?_
  | with_reducible refine' g_par ?_
  | with_reducible refine' g_kPar ?_
  | with_reducible refine' g_meth ?_
  | with_reducible refine' g_bm ?_
  | with_reducible refine' g_bm0 ?_
  | with_reducible refine' g_raise ?_
  | with_reducible refine' g_for ?_
  | with_reducible refine' g_iR1 ?_
  | with_reducible refine' g_iR2 ?_
  | with_reducible refine' g_iL ?_
  | with_reducible refine' g_lc ?_
  | with_reducible refine' g_retN ?_
  | with_reducible refine' g_no (b := false) rfl ?_
  | with_reducible refine' g_yes (b := true) rfl ?_)
local macro_rules | `(tactic| wtm_at "go") => `(tactic| repeat (wtm_at "g1"))
local macro_rules | `(tactic| wtm_at "gs") => `(tactic| repeat ((fail_if_success (with_reducible refine' g_ifE ?_)); wtm_at "g1"))
local macro_rules | `(tactic| wtm_at "gi") => `(tactic| repeat ((fail_if_success (with_reducible refine' g_if ?_)); wtm_at "g1"))
local macro_rules | `(tactic| wtm_at "gr") => `(tactic| repeat ((fail_if_success (with_reducible refine' g_ret ?_)); wtm_at "g1"))
local macro_rules | `(tactic| wtm_at "gq") => `(tactic| repeat ((fail_if_success (with_reducible refine' g_asg ?_)); wtm_at "g1"))

/-! ### the law's own ledger -/
theorem StAt.new {K : PySem.W.Frag} {H0 H : Hp} {r l : Addr} (s : StAt K H0 H r) (h : H l = none) : l ≠ r := by
  rintro rfl
  obtain ⟨_, _, _, _, _, e, _⟩ := s.ex
  rw [h] at e
  cases e
theorem StAt.nt {K : PySem.W.Frag} {H0 H : Hp} {r : Addr} (s : StAt K H0 H r) : NoTup H [r] := by
  obtain ⟨_, _, _, _, _, h, _⟩ := s.ex
  exact noTup1 h
def lgKvs (η : Hs) (qi qt : Addr) : List (Key × V) := [(Sum.inr "key", .int η.key), (Sum.inr "funds", .int η.money), (Sum.inr "bought", .int η.spent), (Sum.inr "issues", .ref qi), (Sum.inr "taken", .ref qt)]
structure LgAt (H : Hp) (q qi qt : Addr) (bi bk : Int → Addr) (η : Hs) : Prop where
  ob : H q = some (.dK (lgKvs η qi qt))
  di : H qi = some (.dK (kvO η.ms bi))
  dt : H qt = some (.dK (kvO η.ms bk))
  li : CdL H η.ms bi η.iss
  lk : CdL H η.ms bk η.tkn
  ne : q ≠ qi ∧ q ≠ qt ∧ qi ≠ qt
theorem LgAt.mx {S : List Addr} {H H' : Hp} {h di dt : Addr} {ai ak : Int → Addr} {η : Hs} (M : LgAt H h di dt ai ak η) (m : Mx S H H') (n : NoTup H S) (f : ∀ x ∈ ftH h di dt ai ak η.ms, x ∉ S) : LgAt H' h di dt ai ak η := by
  obtain ⟨ob, di', dt', li, lk, ne⟩ := M
  exact ⟨m _ _ ob (f _ (by simp [ftH])), m _ _ di' (f _ (by simp [ftH])), m _ _ dt' (f _ (by simp [ftH])), li.mx m n fun j hj => f _ (ftH_i hj), lk.mx m n fun j hj => f _ (ftH_k hj), ne⟩
theorem LgAt.mx0 {H H' : Hp} {h di dt : Addr} {ai ak : Int → Addr} {η : Hs} (M : LgAt H h di dt ai ak η) (m : Mx [] H H') : LgAt H' h di dt ai ak η := M.mx m noTup0 fun _ _ => by simp
theorem LgAt.nt {H : Hp} {q qi qt : Addr} {bi bk : Int → Addr} {η : Hs} (M : LgAt H q qi qt bi bk η) : NoTup H [q, qi, qt] := (noTupD M.ob).cons ((noTupD M.di).cons (noTupD M.dt))
/-- written at the ledger's own numbers alone -/
theorem LgAt.fld {H H' : Hp} {q qi qt : Addr} {bi bk : Int → Addr} {η η' : Hs} (M : LgAt H q qi qt bi bk η) (m : Mx [q] H H') (e : H' q = some (.dK (lgKvs η' qi qt))) (e1 : η'.ms = η.ms) (e2 : η'.iss = η.iss) (e3 : η'.tkn = η.tkn) : LgAt H' q qi qt bi bk η' := by
  obtain ⟨ob, di', dt', li, lk, ne⟩ := M
  have nt : NoTup H [q] := noTupD ob
  refine ⟨e, ?_, ?_, ?_, ?_, ne⟩
  · rw [e1]; exact m _ _ di' (by simpa using ne.1.symm)
  · rw [e1]; exact m _ _ dt' (by simpa using ne.2.1.symm)
  · rw [e1, e2]; exact li.mx m nt fun j hj => by obtain ⟨us, eu, _⟩ := li j hj; simp; exact (ne_of ob eu fun z => nomatch z).symm
  · rw [e1, e3]; exact lk.mx m nt fun j hj => by obtain ⟨us, eu, _⟩ := lk j hj; simp; exact (ne_of ob eu fun z => nomatch z).symm
def HdAt (H : Hp) (t : Addr) : HD → Prop
  | .buy a => H t = some (.tup [.str "buy", .int a])
  | .iss m a => H t = some (.tup [.str "issue", .int m, .int a])
  | .tk z => ∃ c, H t = some (.tup [.str "take_back", .ref c]) ∧ H c = some (.tup z.vs)
theorem HdAt.mx {S : List Addr} {H H' : Hp} {t : Addr} {d : HD} (h : HdAt H t d) (m : Mx S H H') (n : NoTup H S) : HdAt H' t d := by
  cases d with
  | buy a => exact mx_tup m n h
  | iss m' a => exact mx_tup m n h
  | tk z => obtain ⟨c, h1, h2⟩ := h; exact ⟨c, mx_tup m n h1, mx_tup m n h2⟩
theorem HdAt.mx0 {H H' : Hp} {t : Addr} {d : HD} (h : HdAt H t d) (m : Mx [] H H') : HdAt H' t d := h.mx m noTup0
theorem dueH_ref {η : Hs} {d : HD} {r : Rf} (h : resH η d = some r) : dueH η d = (.str r.word, η) := by unfold dueH; rw [h]
theorem dueH_ok {η : Hs} {d : HD} (h : resH η d = none) : dueH η d = (telH η d, newH η d) := by unfold dueH; rw [h]
/-- as it was, or new -/
def Old (H : Hp) (ms : List Int) (b b' : Int → Addr) : Prop := ∀ m ∈ ms, b' m = b m ∨ H (b' m) = none
theorem Old.refl {H : Hp} {ms : List Int} {b : Int → Addr} : Old H ms b b := fun _ _ => .inl rfl
theorem Old.setM {H : Hp} {ms : List Int} {b : Int → Addr} {m : Int} {p : Addr} (h : H p = none) : Old H ms b (setM b m p) := fun j _ => by
  by_cases e : j = m
  · subst e; rw [setM_same]; exact .inr h
  · rw [setM_ne e]; exact .inl rfl
section
variable {P : Program} {w : World} {K : PySem.W.Frag} {mg : Str → Option Value} {base : Heap}
local macro_rules | `(tactic| wtm_at "g1") => `(tactic| first
  | ((with_reducible refine' g_fOwn (by assumption) ?h201 ?k201); (case' h201 => wtm_at "hp"))
  | ((with_reducible refine' g_fKey (by assumption) ?h202 ?k202); (case' h202 => wtm_at "hp"))
  | ((with_reducible refine' g_fMem (by assumption) ?h203 ?k203); (case' h203 => wtm_at "hp"))
  | ((with_reducible refine' g_fPri (by assumption) ?h204 ?k204); (case' h204 => wtm_at "hp"))
  | ((with_reducible refine' g_fAwa (by assumption) ?h205 ?k205); (case' h205 => wtm_at "hp"))
  | ((with_reducible refine' g_pAwa (by assumption) ?h206 ?k206); (case' h206 => wtm_at "hp"); (case' k206 => intro _ _ _))
  | ((with_reducible refine' g_kMeth ?h207 ?l207 ?k207); (case' h207 => wtm_at "hp"); (case' l207 => exact rfl)))

local macro_rules | `(tactic| wtm_at "g1") => `(tactic| first
  | ((with_reducible refine' g_dNum ?h311 ?k311); (case' h311 => wtm_at "hp"))
  | ((with_reducible refine' g_dKey ?h312 ?k312); (case' h312 => wtm_at "hp"))
  | ((with_reducible refine' g_dCe ?h313 ?k313); (case' h313 => wtm_at "hp"))
  | ((with_reducible refine' g_dSt ?h314 ?k314); (case' h314 => wtm_at "hp"))
  | ((with_reducible refine' g_dUp ?h315 ?k315); (case' h315 => wtm_at "hp"))
  | ((with_reducible refine' g_kDGetS ?h301 ?l301 ?k301); (case' h301 => wtm_at "hp"); (case' l301 => exact rfl))
  | (with_reducible refine' g_dput ?_)
  | (with_reducible refine' g_iK ?_)
  | ((with_reducible refine' g_disp ?k305); (case' k305 => intro _ _ _ _ _))
  | (with_reducible refine' g_pcons ?_)
  | (with_reducible refine' g_pnil ?_)
  | ((with_reducible refine' g_kDisp ?h306 ?e306 ?f306 ?l306 ?k306); (case' h306 => wtm_at "hp"); (case' e306 => exact rfl); (case' f306 => exact rfl); (case' l306 => wtm_at "ln"); (case' k306 => intro _ _ _))
  | ((with_reducible refine' g_pUp ?h302 ?k302); (case' h302 => wtm_at "hp"); (case' k302 => intro _ _ _))
  | ((with_reducible refine' g_pSt ?h303 ?k303); (case' h303 => wtm_at "hp"); (case' k303 => intro _ _ _))
  | ((with_reducible refine' g_pCe ?h304 ?k304); (case' h304 => wtm_at "hp"); (case' k304 => intro _ _ _)))

local macro_rules | `(tactic| wtm_at "g1") => `(tactic| first
  | ((with_reducible refine' g_hKey (by assumption) ?h501 ?k501); (case' h501 => wtm_at "hp"))
  | ((with_reducible refine' g_hMon (by assumption) ?h502 ?k502); (case' h502 => wtm_at "hp"))
  | ((with_reducible refine' g_hSpe (by assumption) ?h503 ?k503); (case' h503 => wtm_at "hp"))
  | ((with_reducible refine' g_hIss (by assumption) ?h504 ?k504); (case' h504 => wtm_at "hp"))
  | ((with_reducible refine' g_hTak (by assumption) ?h505 ?k505); (case' h505 => wtm_at "hp"))
  | ((with_reducible refine' g_hpMon (by assumption) ?h506 ?k506); (case' h506 => wtm_at "hp"); (case' k506 => intro _ _ _))
  | ((with_reducible refine' g_hpSpe (by assumption) ?h507 ?k507); (case' h507 => wtm_at "hp"); (case' k507 => intro _ _ _))
  | ((with_reducible refine' g_kMeth ?h508 ?l508 ?k508); (case' h508 => wtm_at "hp"); (case' l508 => exact rfl))
  | ((with_reducible refine' g_kDGetI ?h509 ?l509 ?k509); (case' h509 => wtm_at "hp"); (case' l509 => wtm_at "kv"))
  | (with_reducible refine' g_dni ?_)
  | ((with_reducible refine' g_kDNi ?h510 ?k510); (case' h510 => wtm_at "hp"))
  | (with_reducible refine' g_lenSet ?_))
local macro_rules | `(tactic| wtm_at "kv") => `(tactic| first
  | exact kvO_get (by assumption)
  | exact rfl)

theorem g_kDPutJ {v : V} {a : Addr} {i : Int} {H : Hp} {kvs kvs' : List (Key × V)} {N : Hp → Prop} (h : H a = some (.dK kvs)) (e : putK kvs (Sum.inl i) v = kvs') (hl : kvs.length ≤ 100) (k : ∀ H', Mx [a] H H' → H' a = some (.dK kvs') → N H') : kDPut v (.ref a) N (.int i) H := g_kDPutI h e hl k
def spFar : Sp := fun vs H Q _ => ∃ (H0 : Hp) (r : Addr) (n : Int), vs = [.ref r, .int n] ∧ StAt K H0 H r ∧ ∀ x H', Mx [r] H H' → StAt K H0 H' r → Q (.int x) H'
theorem c__law_far (T : Tx K mg) : Cl P w K mg base 2 "_law_far" (spFar (K := K)) [] := by
  refine T.f__law_far.cl sc__law_far (fun vs H Q E h => ?_) (fun cdv A outer s H vs Q E hr h => ?_)
  · obtain ⟨_, _, _, rfl, _⟩ := h
    rfl
  · obtain ⟨H0, r, n, rfl, S, q⟩ := h
    refine ⟨_, (pss_cons (ps_set (i := 2) sc__law_far.nd rfl (Or.inl rfl) (pe_ix (ixL K) (pe_lst (pa_cons pe_int (pa_cons pe_int (pa_cons (pe_op op_pow pe_int pe_int) pa_nil)))) (q_call (c__law_drawn T) hr (by decide) rfl (passes_call (takes_of rfl rfl rfl rfl) (fun _ _ _ _ h => h)) (pa_cons (pv 0) (pa_cons pe_int pa_nil))) (fun _ _ => rfl)))
      (pss_one (ps_ret (pe_ix (ixL K) (pe_lst (pa_cons (pe_op op_sub (pe_op op_sub pe_int pe_int) (q_call (c__law_drawn T) hr (by decide) rfl (passes_call (takes_of rfl rfl rfl rfl) (fun _ _ _ _ h => h)) (pa_cons (pv 0) (pa_cons (pv 2) pa_nil)))) (pa_cons (pe_op op_add (pe_op op_add (pv 1) pe_int) (q_call (c__law_drawn T) hr (by decide) rfl (passes_call (takes_of rfl rfl rfl rfl) (fun _ _ _ _ h => h)) (pa_cons (pv 0) (pa_cons (pv 2) pa_nil)))) pa_nil))) (q_call (c__law_drawn T) hr (by decide) rfl (passes_call (takes_of rfl rfl rfl rfl) (fun _ _ _ _ h => h)) (pa_cons (pv 0) (pa_cons pe_int pa_nil))) (fun _ _ => rfl))))), ?_⟩
    refine g_seq ?_
    refine g_cutS (fun N => ∀ (f : Int) H1, 0 < f → f < 2 ^ 300 → Mx [r] H H1 → StAt K H0 H1 r → N [some (.ref r), some (.int n), some (.int f)] H1) (fun N hN => ?_) (fun f H1 f0 f1 m1 S1 => ?_)
    · wtm_at "go"
      rename_i l H1 n1 m1 e1
      have ne := S.new n1
      refine ⟨H0, r, 3, rfl, S.mx0 m1, by omega, by omega, fun y H2 y0 y1 m2 S2 => ?_⟩
      have e2 : H2 l = some (.lst [.int 1, .int 20, .int (10 ^ (29 : Int).toNat)]) := m2 _ _ e1 (by simpa using ne)
      have c2 : Mx [r] H H2 := m1.of0.trans m2
      have hy : y = 0 ∨ y = 1 ∨ y = 2 := by omega
      rcases hy with rfl | rfl | rfl
      · wtm_at "go"
        exact hN _ _ (by decide) (by decide) c2 S2
      · wtm_at "go"
        exact hN _ _ (by decide) (by decide) c2 S2
      · wtm_at "go"
        exact hN _ _ (by decide) (by decide) c2 S2
    · wtm_at "go"
      refine ⟨H0, r, f, rfl, S1, f0, f1, fun x H2 x0 x1 m2 S2 => ?_⟩
      wtm_at "go"
      refine ⟨H0, r, f, rfl, S2, f0, f1, fun x' H3 x0' x1' m3 S3 => ?_⟩
      wtm_at "go"
      rename_i l H4 n4 m4 e4
      have ne := S3.new n4
      refine ⟨H0, r, 2, rfl, S3.mx0 m4, by omega, by omega, fun y H5 y0 y1 m5 S5 => ?_⟩
      have e5 : H5 l = some (.lst [.int (0 - 1 - x), .int (n + 1 + x')]) := m5 _ _ e4 (by simpa using ne)
      have c5 : Mx [r] H H5 := (((m1.trans m2).trans m3).trans m4.of0).trans m5
      have hy : y = 0 ∨ y = 1 := by omega
      rcases hy with rfl | rfl
      · wtm_at "go"
        exact q _ _ c5 S5
      · wtm_at "go"
        exact q _ _ c5 S5

/-- unlike numbers, in order -/
def spNumbers : Sp := fun vs H Q _ => ∃ (H0 : Hp) (r : Addr) (n : Int), vs = [.ref r, .int n] ∧ StAt K H0 H r ∧ (1 ≤ n ∧ n ≤ 4) ∧
  ∀ (l : Addr) (ms : List Int) (H' : Hp), (ms.length : Int) = n → ms.Nodup → ms.Pairwise (· ≤ ·) → (∀ m ∈ ms, 1 ≤ m ∧ m ≤ 9999) → H l = none → Mx [r] H H' → StAt K H0 H' r → H' l = some (.lst (ms.map V.int)) → Q (.ref l) H'
theorem c__law_numbers (T : Tx K mg) : Cl P w K mg base 2 "_law_numbers" (spNumbers (K := K)) [] := by
  refine T.f__law_numbers.cl sc__law_numbers (fun vs H Q E h => ?_) (fun cdv A outer s H vs Q E hr h => ?_)
  · obtain ⟨_, _, _, rfl, _⟩ := h
    rfl
  · obtain ⟨H0, r, n, rfl, S, hn, k⟩ := h
    refine ⟨_, (pss_cons (ps_set (i := 2) sc__law_numbers.nd rfl (Or.inr rfl) (pe_op op_add pe_int (q_call (c__law_drawn T) hr (by decide) rfl (passes_call (takes_of rfl rfl rfl rfl) (fun _ _ _ _ h => h)) (pa_cons (pv 0) (pa_cons pe_int pa_nil)))))
      (pss_cons (ps_set (i := 3) sc__law_numbers.nd rfl (Or.inr rfl) (pe_op op_add pe_int (q_call (c__law_drawn T) hr (by decide) rfl (passes_call (takes_of rfl rfl rfl rfl) (fun _ _ _ _ h => h)) (pa_cons (pv 0) (pa_cons pe_int pa_nil)))))
      (pss_one (ps_ret (pe_lc (own := [("_law_k", 4)]) (g := gName 4) rfl sc__law_numbers.nd (pi_range1 rfl T.n_range (pa_cons (pv 1) pa_nil)) (blkOk_by (own := [("_law_k", 4)]) (N := N__law_numbers) (sc := defScope s__law_numbers) (by decide +kernel)) (fun _ _ _ _ _ => pg_name (i := 4) sc__law_numbers.nd rfl (by first | exact Or.inl rfl | exact Or.inr rfl)) (fun _ _ _ _ _ => pts_nil) (fun _ _ _ _ _ => (pe_op op_add (pv 2) (pe_op op_mulW (pv 4) (pv 3))))))))), ?_⟩
    wtm_at "go"
    refine ⟨H0, r, 9000, rfl, S, by omega, by omega, fun x H1 x0 x1 m1 S1 => ?_⟩
    wtm_at "go"
    refine ⟨H0, r, 300, rfl, S1, by omega, by omega, fun y H2 y0 y1 m2 S2 => ?_⟩
    have c2 := m1.trans m2
    wtm_at "go"
    refine g_lcR (fun i => some (.int ((1 + x) + (i : Int) * (1 + y)))) (by intro x; rfl) (by omega) (fun i H' QN hi m hQ => ?_) (fun Dl H3 hD m3 eD => ?_)
    · refine g_yesH ?_
      rw [show (0 : Int) + (i : Int) = (i : Int) by omega]
      wtm_at "go"
      exact hQ _ _ Mx.refl rfl
    · have el : (List.range n.toNat).filterMap (fun (i : Nat) => some (V.int ((1 + x) + (i : Int) * (1 + y)))) = ((List.range n.toNat).map fun (i : Nat) => (1 + x) + (i : Int) * (1 + y)).map V.int := by
        rw [List.map_map]
        show List.filterMap (some ∘ (V.int ∘ fun (i : Nat) => (1 + x) + (i : Int) * (1 + y))) _ = _
        rw [List.filterMap_eq_map]
      rw [el] at eD
      have inj : ∀ i j : Nat, i < j → (1 + x) + (i : Int) * (1 + y) < (1 + x) + (j : Int) * (1 + y) := fun i j h => by
        have : (i : Int) * (1 + y) < (j : Int) * (1 + y) := Int.mul_lt_mul_of_pos_right (by omega) (by omega)
        omega
      refine k Dl _ H3 (by rw [List.length_map, List.length_range]; omega) ?_ ?_ (fun m hm => ?_) (c2.free hD (by simp; exact S2.new hD)) (c2.trans m3.of0) (S2.mx0 m3) eD
      · refine List.Pairwise.map _ (R := fun a b : Nat => a < b) (fun a b h => ?_) List.pairwise_lt_range
        exact Int.ne_of_lt (inj a b h)
      · refine List.Pairwise.map _ (R := fun a b : Nat => a < b) (fun a b h => ?_) List.pairwise_lt_range
        exact Int.le_of_lt (inj a b h)
      · obtain ⟨i, hi, rfl⟩ := List.mem_map.mp hm
        have hi4 : i < 4 := by have := List.mem_range.mp hi; omega
        have : (i : Int) * (1 + y) ≤ 3 * 300 := Int.mul_le_mul (by omega) (by omega) (by omega) (by omega)
        have : 0 ≤ (i : Int) * (1 + y) := Int.mul_nonneg (by omega) (by omega)
        omega
/-- what a house is -/
def spLHouse : Sp := fun vs H Q _ => ∃ (a : Addr) (k : Int) (ms : List Int), vs = [.int k, .ref a] ∧ SqL K H a (ms.map V.int) ∧ ms.Nodup ∧ ms.length ≤ 4 ∧
  ∀ q qi qt bi bk H', (∀ x ∈ ftH q qi qt bi bk ms, H x = none) → Mx [] H H' → LgAt H' q qi qt bi bk (newHs k ms) → Q (.ref q) H'
theorem c__law_house (T : Tx K mg) : Cl P w K mg base 1 "_law_house" (spLHouse (K := K)) [] := by
  refine T.f__law_house.cl sc__law_house (fun vs H Q E h => ?_) (fun cdv A outer s H vs Q E hr h => ?_)
  · obtain ⟨_, _, _, rfl, _⟩ := h
    rfl
  · obtain ⟨a, k, ms, rfl, hS, nd, hl, q⟩ := h
    have hu := hu_of hr
    refine ⟨_, (pss_cons (ps_set (i := 2) sc__law_house.nd rfl (Or.inl rfl) (pe_disp (pps_cons pe_str (pv 0) (pps_cons pe_str pe_int (pps_cons pe_str pe_int pps_nil))) (by rfl) (by rfl) (fun z => by cases z) (by decide)))
      (pss_cons (ps_dput hu (pv 2) pe_str (pe_callTy (cDictP K rfl) (by rfl) T.n_dict (by decide +kernel) (pa_cons (pe_lc (own := [("_law_meter", 3)]) (g := gName 3) rfl sc__law_house.nd (piL K (pv 1)) (blkOk_by (own := [("_law_meter", 3)]) (N := N__law_house) (sc := defScope s__law_house) (by decide +kernel)) (fun _ _ _ _ _ => pg_name (i := 3) sc__law_house.nd rfl (by first | exact Or.inl rfl | exact Or.inr rfl)) (fun _ _ _ _ _ => pts_nil) (fun _ _ _ _ _ => (pe_tup (pa_cons (pv 3) (pa_cons (pe_lst pa_nil) pa_nil))))) pa_nil)) rfl)
      (pss_cons (ps_dput hu (pv 2) pe_str (pe_callTy (cDictP K rfl) (by rfl) T.n_dict (by decide +kernel) (pa_cons (pe_lc (own := [("_law_meter", 3)]) (g := gName 3) rfl sc__law_house.nd (piL K (pv 1)) (blkOk_by (own := [("_law_meter", 3)]) (N := N__law_house) (sc := defScope s__law_house) (by decide +kernel)) (fun _ _ _ _ _ => pg_name (i := 3) sc__law_house.nd rfl (by first | exact Or.inl rfl | exact Or.inr rfl)) (fun _ _ _ _ _ => pts_nil) (fun _ _ _ _ _ => (pe_tup (pa_cons (pv 3) (pa_cons (pe_lst pa_nil) pa_nil))))) pa_nil)) rfl)
      (pss_one (ps_ret (pv 2)))))), ?_⟩
    wtm_at "go"
    rename_i d H1 n1 m1 e1 H2 m2 e2
    have c2 : Mx [] H H2 := m1.own n1 m2
    refine g_lcPairs (by intro x; rfl) (by intro x; rfl) (c2.sqL0 hS) nd (by omega) fun Dl H3 ps ai hD m3 eD pr ls inj => ?_
    wtm_at "go"
    refine g_dictP eD pr nd fun di H4 n4 m4 e4 => ?_
    have c4 := m3.trans m4
    have e24 := c4.get0 e2
    wtm_at "go"
    refine g_kDPutS e24 rfl (by show 3 ≤ 100; decide) fun H5 m5 e5 => ?_
    have c5 : Mx [] H H5 := (c2.trans c4).own n1 m5
    have dne : di ≠ d := (ne_of_none (m3.get0 e2) n4).symm
    have e45 := m5 _ _ e4 (by simpa using dne)
    have ls5 : ∀ m ∈ ms, H5 (ai m) = some (.lst []) := fun m hm => m5 _ _ (m4.get0 (ls m hm).1) (by simp; exact (ne_of e24 (m4.get0 (ls m hm).1) fun z => nomatch z).symm)
    wtm_at "go"
    refine g_lcPairs (by intro x; rfl) (by intro x; rfl) (c5.sqL0 hS) nd (by omega) fun Dl2 H6 ps2 ak hD2 m6 eD2 pr2 lk inj2 => ?_
    wtm_at "go"
    refine g_dictP eD2 pr2 nd fun dt H7 n7 m7 e7 => ?_
    have c7 := m6.trans m7
    have e57 := c7.get0 e5
    wtm_at "go"
    refine g_kDPutS e57 rfl (by show 4 ≤ 100; decide) fun H8 m8 e8 => ?_
    have dne2 : dt ≠ d := (ne_of_none (m6.get0 e5) n7).symm
    have dd : di ≠ dt := ne_of_none (m6.get0 e45) n7
    have c8 : Mx [] H H8 := (c5.trans c7).own n1 m8
    wtm_at "go"
    refine q d di dt ai ak H8 (fun x hx => ?_) c8 ⟨e8, m8 _ _ (c7.get0 e45) (by simpa using dne), m8 _ _ e7 (by simpa using dne2), CdL.new fun m hm => m8 _ _ (c7.get0 (ls5 m hm)) (by simp; exact (ne_of e57 (c7.get0 (ls5 m hm)) fun z => nomatch z).symm), CdL.new fun m hm => m8 _ _ (m7.get0 (lk m hm).1) (by simp; exact (ne_of e57 (m7.get0 (lk m hm).1) fun z => nomatch z).symm), dne.symm, dne2.symm, dd⟩
    simp only [ftH, List.mem_cons, List.mem_append, List.mem_map] at hx
    rcases hx with rfl | rfl | rfl | ⟨m, hm, rfl⟩ | ⟨m, hm, rfl⟩
    · exact n1
    · exact (c2.trans m3).free0 n4
    · exact (c5.trans m6).free0 n7
    · exact c2.free0 (ls m hm).2
    · exact c5.free0 (lk m hm).2
/-! what a deed is to tell -/
def LDue (K : PySem.W.Frag) (H : Hp) (q qi qt : Addr) (bi bk : Int → Addr) (η : Hs) (d : HD) (Q : VK) : Prop := ∀ v bi' bk' H', Old H η.ms bi bi' → Old H η.ms bk bk' → Mx [q, qi, qt] H H' → LgAt H' q qi qt bi' bk' (dueH η d).2 → Dp K H' v (dueH η d).1 → Q v H'
def spLBuy : Sp := fun vs H Q _ => ∃ (q qi qt : Addr) (bi bk : Int → Addr) (η : Hs) (a : Int), vs = [.ref q, .int a] ∧ LgAt H q qi qt bi bk η ∧ LDue K H q qi qt bi bk η (.buy a) Q
theorem c__law_buy (T : Tx K mg) : Cl P w K mg base 1 "_law_buy" (spLBuy (K := K)) [] := by
  refine T.f__law_buy.cl sc__law_buy (fun vs H Q E h => ?_) (fun cdv A outer s H vs Q E hr h => ?_)
  · obtain ⟨_, _, _, _, _, _, _, rfl, _⟩ := h
    rfl
  · obtain ⟨q, qi, qt, bi, bk, η, a, rfl, L, k⟩ := h
    have hu := hu_of hr
    have ob := L.ob
    refine ⟨_, (pss_cons (ps_if (pt_not (pt_chain op_le op_le pe_int (pv 1) pe_int)) (pss_one (ps_ret pe_str)) pss_nil)
      (pss_cons (ps_dput hu (pv 0) pe_str (pe_op op_add (pe_dget hu (pv 0) pe_str (fun _ _ => rfl)) (pv 1)) rfl)
      (pss_cons (ps_dput hu (pv 0) pe_str (pe_op op_add (pe_dget hu (pv 0) pe_str (fun _ _ => rfl)) (pv 1)) rfl)
      (pss_one (ps_ret (pe_dget hu (pv 0) pe_str (fun _ _ => rfl))))))), ?_⟩
    have bad : ∀ H', Mx [] H H' → amt a = false → Q (.str "BadAmount") H' := fun H' m ea => by
      have er : resH η (.buy a) = some .amount := by simp [resH, ea]
      have := k (.str "BadAmount") bi bk H' Old.refl Old.refl m.of0
      rw [dueH_ref er] at this
      exact this (L.mx0 m) (.str _)
    wtm_at "go"
    refine g_ite (fun e => ?_) (fun e => ?_)
    · wtm_at "go"
      refine g_ite (fun e2 => ?_) (fun e2 => ?_)
      · wtm_at "go"
        exact bad _ Mx.refl (by simp at e e2; simp [amt]; omega)
      · have ea : amt a = true := by simp at e e2; simp [amt]; omega
        have er : resH η (.buy a) = none := by simp [resH, ea]
        wtm_at "go"
        refine g_kDPutS ob rfl (by show 5 ≤ 100; decide) fun H1 m1 e1 => ?_
        have e1' : H1 q = some (.dK (lgKvs { η with money := η.money + a } qi qt)) := e1
        clear e1
        wtm_at "go"
        refine g_kDPutS e1' rfl (by show 5 ≤ 100; decide) fun H2 m2 e2 => ?_
        have e2' : H2 q = some (.dK (lgKvs (newH η (.buy a)) qi qt)) := e2
        clear e2
        wtm_at "go"
        have := k (.int (η.money + a)) bi bk H2 Old.refl Old.refl ((m1.trans m2).mono (by simp))
        rw [dueH_ok er] at this
        exact this (L.fld (m1.trans m2) e2' rfl rfl rfl) (.int _)
    · wtm_at "go"
      refine g_yes rfl ?_
      wtm_at "go"
      exact bad _ Mx.refl (by simp at e; simp [amt]; omega)
def spLIssue : Sp := fun vs H Q _ => ∃ (q qi qt : Addr) (bi bk : Int → Addr) (η : Hs) (m a : Int) (n : Nat), vs = [.ref q, .int m, .int a] ∧ LgAt H q qi qt bi bk η ∧ Hw n η ∧ n < 1000 ∧ LDue K H q qi qt bi bk η (.iss m a) Q
theorem c__law_issue (T : Tx K mg) : Cl P w K mg base 3 "_law_issue" (spLIssue (K := K)) [] := by
  refine T.f__law_issue.cl sc__law_issue (fun vs H Q E h => ?_) (fun cdv A outer s H vs Q E hr h => ?_)
  · obtain ⟨_, _, _, _, _, _, _, _, _, rfl, _⟩ := h
    rfl
  · obtain ⟨q, qi, qt, bi, bk, η, m, a, n, rfl, L, W, hn, k⟩ := h
    have hu := hu_of hr
    have ob := L.ob
    have hdi := L.di
    refine ⟨_, (pss_cons (ps_if (pt_cmp (pc_dnotin hu (pv 1) (pe_dget hu (pv 0) pe_str (fun _ _ => rfl))) rfl) (pss_one (ps_ret pe_str)) pss_nil)
      (pss_cons (ps_if (pt_not (pt_chain op_le op_le pe_int (pv 2) pe_int)) (pss_one (ps_ret pe_str)) pss_nil)
      (pss_cons (ps_if (pt_cmpR op_lt (pe_dget hu (pv 0) pe_str (fun _ _ => rfl)) (pv 2) (by first | exact nomark _ | rfl)) (pss_one (ps_ret pe_str)) pss_nil)
      (pss_cons (ps_dput hu (pv 0) pe_str (pe_op op_sub (pe_dget hu (pv 0) pe_str (fun _ _ => rfl)) (pv 2)) rfl)
      (pss_cons (ps_set (i := 3) sc__law_issue.nd rfl (Or.inl rfl) (q_call (c__law_code T) hr (by decide) rfl (passes_call (takes_of rfl rfl rfl rfl) (fun _ _ _ _ h => h)) (pa_cons (pe_dget hu (pv 0) pe_str (fun _ _ => rfl)) (pa_cons (pv 1) (pa_cons (pe_op op_add (pe_callB (cLen K) (by rfl) T.n_len (by decide +kernel) (pa_cons (pe_dget hu (pe_dget hu (pv 0) pe_str (fun _ _ => rfl)) (pv 1) (fun _ _ => rfl)) pa_nil)) pe_int) (pa_cons (pv 2) (pa_cons pe_int pa_nil)))))))
      (pss_cons (ps_dput hu (pe_dget hu (pv 0) pe_str (fun _ _ => rfl)) (pv 1) (pe_op op_cat (pe_dget hu (pe_dget hu (pv 0) pe_str (fun _ _ => rfl)) (pv 1) (fun _ _ => rfl)) (pe_lst (pa_cons (pv 3) pa_nil))) rfl)
      (pss_one (ps_ret (pv 3))))))))), ?_⟩
    have bad : ∀ r, resH η (.iss m a) = some r → ∀ H', Mx [] H H' → Q (.str r.word) H' := fun r er H' mm => by
      have := k (.str r.word) bi bk H' Old.refl Old.refl mm.of0
      rw [dueH_ref er] at this
      exact this (L.mx0 mm) (.str _)
    wtm_at "go"
    rw [kvO_in]
    refine g_ite (fun e => ?_) (fun e => ?_)
    · wtm_at "go"
      exact bad .meter (by simp [resH]; intro hh; exact absurd hh (by simpa using e)) _ Mx.refl
    · have hm : m ∈ η.ms := by simpa using e
      have bad2 : amt a = false → ∀ H', Mx [] H H' → Q (.str "BadAmount") H' := fun ea => bad .amount (by simp [resH, hm, ea])
      wtm_at "go"
      refine g_ite (fun e => ?_) (fun e => ?_)
      · wtm_at "go"
        refine g_ite (fun e2 => ?_) (fun e2 => ?_)
        · wtm_at "go"
          exact bad2 (by simp at e e2; simp [amt]; omega) _ Mx.refl
        · have ea : amt a = true := by simp at e e2; simp [amt]; omega
          have ha := amt_iff.mp ea
          wtm_at "go"
          refine g_ite (fun e3 => ?_) (fun e3 => ?_)
          · wtm_at "go"
            exact bad .short (by simp [resH, hm, ea]; simpa using e3) _ Mx.refl
          · have hsh : ¬ η.money < a := by simpa using e3
            have er : resH η (.iss m a) = none := by simp [resH, hm, ea]; omega
            wtm_at "go"
            refine g_kDPutS ob rfl (by show 5 ≤ 100; decide) fun H1 m1 e1 => ?_
            have e1' : H1 q = some (.dK (lgKvs { η with money := η.money - a } qi qt)) := e1
            clear e1
            have L1 := L.fld (η' := { η with money := η.money - a }) m1 e1' rfl rfl rfl
            have hdi1 : H1 qi = some (.dK (kvO η.ms bi)) := L1.di
            obtain ⟨us, eu, du⟩ := L1.li m hm
            have lu : us.length = (η.iss m).length := du.len
            have hli := W.li m hm
            have hmb := W.mb m hm
            have hkk := W.kk
            wtm_at "go"
            rw [lu]
            refine ⟨_, _, _, _, _, rfl, (by show Bd η.key; unfold Bd; omega), (by unfold Bd; omega), (by unfold Bd; omega), (by unfold Bd; omega), (by unfold Bd; omega), fun t H2 n2 m2 e2 => ?_⟩
            have L2' := L1.mx0 m2
            have e12 := m2.get0 e1'
            have eu2 := m2.get0 eu
            have hdi2 := m2.get0 hdi1
            wtm_at "go"
            rename_i l3 H3 n3 m3 e3 l4 H4 n4 m4 e4
            have c4 := m3.trans m4
            have e14 := c4.get0 e12
            have hdi4 := c4.get0 hdi2
            refine g_kDPutJ hdi4 (kvO_put hm) (by rw [kvO_len]; have := W.ln; omega) fun H5 m5 e5 => ?_
            have nt4 : NoTup H4 [qi] := noTupD hdi4
            have ht5 : H5 t = some (.tup (issC η m a).vs) := mx_tup m5 nt4 (c4.get0 e2)
            have L4 := (L2'.mx0 c4)
            have q4 : H1 l4 = none := (m2.trans m3).free0 n4
            have q5 : H l4 = none := m1.free q4 (by simp; rintro rfl; rw [e1'] at q4; cases q4)
            have l4q : l4 ≠ qi := (ne_of_none (m3.get0 hdi2) n4).symm
            wtm_at "go"
            have := k (.ref t) (setM bi m l4) bk H5 (Old.setM q5) Old.refl ((m1.mono (by simp)).trans ((m2.trans c4).of0.trans (m5.mono (by simp))))
            rw [dueH_ok er] at this
            refine this ⟨m5 _ _ e14 (by simpa using L.ne.1), e5, m5 _ _ L4.dt (by simpa using L.ne.2.2.symm), fun j hj => ?_, L4.lk.mx m5 nt4 (fun j hj => by obtain ⟨us, eu, _⟩ := L4.lk j hj; simp; exact (ne_of hdi4 eu fun z => nomatch z).symm), L.ne⟩ (.tup (.of ht5) (.cons (.int _) (.cons (.int _) (.cons (.int _) (.cons (.int _) .nil)))))
            show ∃ us, H5 (setM bi m l4 j) = some (.lst us) ∧ CdAll H5 us (setM η.iss m (η.iss m ++ [issC η m a]) j)
            by_cases h : j = m
            · subst h
              rw [setM_same, setM_same]
              exact ⟨_, m5 _ _ e4 (by simpa using l4q), (((du.mx m2 noTup0).mx c4 noTup0).mx m5 nt4).app ⟨⟨t, rfl, ht5⟩, trivial⟩⟩
            · rw [setM_ne h, setM_ne h]
              obtain ⟨us2, eu2, du2⟩ := L4.li j hj
              exact ⟨us2, m5 _ _ eu2 (by simp; exact (ne_of hdi4 eu2 fun z => nomatch z).symm), du2.mx m5 nt4⟩
      · wtm_at "go"
        refine g_yes rfl ?_
        wtm_at "go"
        exact bad2 (by simp at e; simp [amt]; omega) _ Mx.refl
end
end Fk
namespace Fk
open PySem PySem.Spec PyProof.Rows L2
local macro_rules | `(tactic| wtm_at "ln") => `(tactic| first
  | omega
  | (simp only [List.length_cons, List.length_nil, List.length_map, List.length_append, List.length_replicate, List.length_take, List.length_drop, List.length_set]; omega)
  | (with_unfolding_all exact (by decide)))
local macro_rules | `(tactic| wtm_at "ar") => `(tactic| first
  | ((with_reducible show CMulW _ _); (refine' mulS ?_ ?_ <;> omega))
  | ((with_reducible show CDivW _ _); (refine' divS ?_ ?_ <;> omega))
  | ((with_reducible show CPow _ _); exact ⟨by decide, by decide, by decide⟩)
  | (show (0 : Int) < _; omega)
  | (with_unfolding_all exact (by decide)))
local macro_rules | `(tactic| wtm_at "at") => `(tactic| first
  | assumption
  | (refine' cl_atE ?e80 ?h80; (case' e80 => first | exact rfl | assumption); (case' h80 => wtm_at "ln"))
  | exact rfl)
local macro_rules | `(tactic| wtm_at "fr") => `(tactic| first
  | assumption
  | ((with_reducible refine' Mx.free0 ?m99 ?h99); (case' h99 => assumption); (case' m99 => wtm_at "mo")))
local macro_rules | `(tactic| wtm_at "hp") => `(tactic| first
  | assumption
  | ((with_reducible refine' Mx.get0 ?m1 ?h1); (case' m1 => assumption); (case' h1 => wtm_at "hp"))
  | ((with_reducible refine' Mx.get ?m2 ?n2 ?h2); (case' m2 => assumption); (case' n2 => wtm_at "nin"); (case' h2 => wtm_at "hp")))
local macro_rules | `(tactic| wtm_at "sl") => `(tactic| first
  | assumption
  | ((with_reducible refine' Mx.sqL0 ?m96 ?h96); (case' h96 => assumption); (case' m96 => wtm_at "mo"))
  | (refine' SqL.of ?h3; (case' h3 => wtm_at "hp"))
  | ((with_reducible refine' Mx.sqL0 ?m4 ?h4); (case' m4 => assumption); (case' h4 => wtm_at "sl"))
  | ((with_reducible refine' Mx.sqL ?m5 ?n5 ?h5); (case' m5 => assumption); (case' n5 => wtm_at "nin"); (case' h5 => wtm_at "sl")))
local macro_rules | `(tactic| wtm_at "st") => `(tactic| first
  | assumption
  | ((with_reducible refine' Mx.sqT0 ?m97 ?h97); (case' h97 => assumption); (case' m97 => wtm_at "mo"))
  | (refine' SqT.of ?h6; (case' h6 => wtm_at "hp"))
  | ((with_reducible refine' Mx.sqT0 ?m7 ?h7); (case' m7 => assumption); (case' h7 => wtm_at "st"))
  | ((with_reducible refine' Mx.sqT ?m8 ?n8 ?h8); (case' m8 => assumption); (case' n8 => wtm_at "nin"); (case' h8 => wtm_at "st")))
local macro_rules | `(tactic| wtm_at "mx") => `(tactic| first
  | assumption
  | exact Mx.refl
  | ((with_reducible refine' Mx.of0 ?h9); (case' h9 => assumption))
  | ((with_reducible refine' Mx.trans ?h10 ?m10); (case' m10 => first | assumption | ((with_reducible refine' Mx.of0 ?q10); (case' q10 => assumption))); (case' h10 => wtm_at "mx")))
local macro_rules | `(tactic| wtm_at "mo") => `(tactic| first
  | wtm_at "mx"
  | ((with_reducible refine' Mx.own ?m90 ?f90 ?k90); (case' k90 => assumption); (case' f90 => wtm_at "fr"); (case' m90 => wtm_at "mo"))
  | ((with_reducible refine' Mx.trans ?h91 ?m91); (case' m91 => first | assumption | ((with_reducible refine' Mx.of0 ?q91); (case' q91 => assumption))); (case' h91 => wtm_at "mo")))
local macro_rules | `(tactic| wtm_at "ne") => `(tactic| first
  | assumption
  | exact Ne.symm (by assumption)
  | ((with_reducible refine' ne_of_none ?x94 ?y94); (case' y94 => assumption); (case' x94 => wtm_at "hp"))
  | ((with_reducible refine' Ne.symm (ne_of_none ?x95 ?y95)); (case' y95 => assumption); (case' x95 => wtm_at "hp")))
local macro_rules | `(tactic| wtm_at "nin") => `(tactic| first
  | assumption
  | exact List.not_mem_nil
  | ((with_reducible refine' List.not_mem_cons_of_ne_of_not_mem ?h98 ?t98); (case' h98 => wtm_at "ne"); (case' t98 => wtm_at "nin")))
local macro_rules | `(tactic| wtm_at "g1") => `(tactic| first
  | ((with_reducible refine' g_var ?h11 ?k11); (case' h11 => exact rfl))
  | with_reducible refine' g_c ?_
  | with_reducible refine' g_op ?_
  | with_reducible refine' g_I0 ?_
  | ((with_reducible refine' g_I ?c12 ?k12); (case' c12 => wtm_at "ar"))
  | with_reducible refine' g_cons ?_
  | with_reducible refine' g_nil ?_
  | with_reducible refine' g_seq ?_
  | with_reducible refine' g_asg ?_
  | with_reducible refine' g_name ?_
  | with_reducible refine' g_ret ?_
  | with_reducible refine' g_if ?_
  | with_reducible refine' g_test ?_
  | with_reducible refine' g_tB ?_
  | with_reducible refine' g_bl ?_
  | ((with_reducible refine' g_eq ?h13 ?k13); (case' h13 => exact rfl))
  | ((with_reducible refine' g_ne ?h14 ?k14); (case' h14 => exact rfl))
  | with_reducible refine' g_CB ?_
  | with_reducible refine' g_call ?_
  | with_reducible refine' g_drop ?_
  | with_reducible refine' g_next ?_
  | with_reducible refine' g_not ?_
  | with_reducible refine' g_and ?_
  | with_reducible refine' g_or ?_
  | with_reducible refine' g_un ?_
  | with_reducible refine' g_U ?_
  | with_reducible refine' g_tup ?_
  | with_reducible refine' g_lst ?_
  | ((with_reducible refine' g_kNew ?h15 ?k15); (case' h15 => wtm_at "ln"); (case' k15 => intro _ _ _ _ _))
  | ((with_reducible refine' g_ixL ?h16 ?a16 ?k16); (case' h16 => wtm_at "sl"); (case' a16 => wtm_at "at"))
  | ((with_reducible refine' g_ixT ?h17 ?a17 ?k17); (case' h17 => wtm_at "st"); (case' a17 => wtm_at "at"))
  | with_reducible refine' g_slice ?_
  | with_reducible refine' g_part ?_
  | with_reducible refine' g_kPart ?_
  | with_reducible refine' g_noPart ?_
  | ((with_reducible refine' g_slL ?h18 ?k18); (case' h18 => wtm_at "sl"); (case' k18 => intro _ _ _ _ _))
  | ((with_reducible refine' g_cat ?h119 ?h219 ?l19 ?k19); (case' h119 => wtm_at "hp"); (case' h219 => wtm_at "hp"); (case' l19 => wtm_at "ln"); (case' k19 => intro _ _ _ _ _))
  | ((with_reducible refine' g_rep ?h120 ?h220 ?h320 ?l20 ?k20); (case' h120 => wtm_at "hp"); (case' h220 => wtm_at "ln"); (case' h320 => wtm_at "ln"); (case' l20 => wtm_at "ln"); (case' k20 => intro _ _ _ _ _))
  | ((with_reducible refine' g_append ?h21 ?l21 ?k21); (case' h21 => wtm_at "hp"); (case' l21 => wtm_at "ln"); (case' k21 => intro _ _ _))
  | ((with_reducible refine' g_kBM ?h22 ?k22); (case' h22 => wtm_at "sl"))
  | ((with_reducible refine' g_kBM0 ?h23 ?k23); (case' h23 => wtm_at "sl"))
  | ((with_reducible refine' g_kL ?h24 ?k24); (case' h24 => wtm_at "sl"))
  | ((with_reducible refine' g_kR1 ?h125 ?h225 ?k25); (case' h125 => wtm_at "ln"); (case' h225 => wtm_at "ln"))
  | ((with_reducible refine' g_kR2 ?h126 ?h226 ?h326 ?h426 ?k26); (case' h126 => wtm_at "ln"); (case' h226 => wtm_at "ln"); (case' h326 => wtm_at "ln"); (case' h426 => wtm_at "ln"))
  | ((with_reducible refine' g_lenL ?h27 ?k27); (case' h27 => wtm_at "sl"))
  | ((with_reducible refine' g_lenT ?h28 ?k28); (case' h28 => wtm_at "st"))
  | ((with_reducible refine' g_listL ?h29 ?k29); (case' h29 => wtm_at "sl"); (case' k29 => intro _ _ _ _ _))
  | ((with_reducible refine' g_tupleL ?h30 ?k30); (case' h30 => wtm_at "sl"); (case' k30 => intro _ _ _ _ _))
  | with_reducible refine' g_max ?_
  | with_reducible refine' g_min ?_
  | with_reducible refine' g_intB ?_
  | with_reducible refine' g_fld ?_
  | with_reducible refine' g_put ?_
  | with_reducible refine' g_dget ?_
  | with_reducible refine' g_isN ?_
  | with_reducible refine' g_notN ?_
  | with_reducible refine' g_ifE ?_
  | with_reducible refine' g_andV ?_
  | with_reducible refine' g_orV ?_
  | with_reducible refine' g_notV ?_
  | with_reducible refine' g_kIf ?_
  | with_reducible refine' g_chain ?_
  | with_reducible refine' g_kCh ?_
  | with_reducible refine' g_sub ?_
  | ((with_reducible refine' g_setI ?h92 ?e92 ?j92 ?k92); (case' h92 => wtm_at "hp"); (case' e92 => first | exact rfl | assumption); (case' j92 => wtm_at "ln"); (case' k92 => intro _ _ _))
  | ((with_reducible refine' g_setL ?h89 ?i89 ?k89); (case' h89 => wtm_at "hp"); (case' i89 => exact ixE rfl (by wtm_at "ln")); (case' k89 => intro _ _ _))
  | ((with_reducible refine' g_gtup ?h93 ?e93 ?k93); (case' h93 => wtm_at "st"); (case' e93 => exact rfl))
  | with_reducible refine' g_gcons ?_
  | with_reducible refine' g_gnil ?_
  | with_reducible refine' g_par ?_
  | with_reducible refine' g_kPar ?_
  | with_reducible refine' g_meth ?_
  | with_reducible refine' g_bm ?_
  | with_reducible refine' g_bm0 ?_
  | with_reducible refine' g_raise ?_
  | with_reducible refine' g_for ?_
  | with_reducible refine' g_iR1 ?_
  | with_reducible refine' g_iR2 ?_
  | with_reducible refine' g_iL ?_
  | with_reducible refine' g_lc ?_
  | with_reducible refine' g_retN ?_
  | with_reducible refine' g_no (b := false) rfl ?_
  | with_reducible refine' g_yes (b := true) rfl ?_)
local macro_rules | `(tactic| wtm_at "go") => `(tactic| repeat (wtm_at "g1"))
local macro_rules | `(tactic| wtm_at "gs") => `(tactic| repeat ((fail_if_success (with_reducible refine' g_ifE ?_)); wtm_at "g1"))
local macro_rules | `(tactic| wtm_at "gi") => `(tactic| repeat ((fail_if_success (with_reducible refine' g_if ?_)); wtm_at "g1"))
local macro_rules | `(tactic| wtm_at "gr") => `(tactic| repeat ((fail_if_success (with_reducible refine' g_ret ?_)); wtm_at "g1"))
local macro_rules | `(tactic| wtm_at "gq") => `(tactic| repeat ((fail_if_success (with_reducible refine' g_asg ?_)); wtm_at "g1"))

section
variable {P : Program} {w : World} {K : PySem.W.Frag} {mg : Str → Option Value} {base : Heap}
local macro_rules | `(tactic| wtm_at "g1") => `(tactic| first
  | ((with_reducible refine' g_fOwn (by assumption) ?h201 ?k201); (case' h201 => wtm_at "hp"))
  | ((with_reducible refine' g_fKey (by assumption) ?h202 ?k202); (case' h202 => wtm_at "hp"))
  | ((with_reducible refine' g_fMem (by assumption) ?h203 ?k203); (case' h203 => wtm_at "hp"))
  | ((with_reducible refine' g_fPri (by assumption) ?h204 ?k204); (case' h204 => wtm_at "hp"))
  | ((with_reducible refine' g_fAwa (by assumption) ?h205 ?k205); (case' h205 => wtm_at "hp"))
  | ((with_reducible refine' g_pAwa (by assumption) ?h206 ?k206); (case' h206 => wtm_at "hp"); (case' k206 => intro _ _ _))
  | ((with_reducible refine' g_kMeth ?h207 ?l207 ?k207); (case' h207 => wtm_at "hp"); (case' l207 => exact rfl)))

local macro_rules | `(tactic| wtm_at "g1") => `(tactic| first
  | ((with_reducible refine' g_dNum ?h311 ?k311); (case' h311 => wtm_at "hp"))
  | ((with_reducible refine' g_dKey ?h312 ?k312); (case' h312 => wtm_at "hp"))
  | ((with_reducible refine' g_dCe ?h313 ?k313); (case' h313 => wtm_at "hp"))
  | ((with_reducible refine' g_dSt ?h314 ?k314); (case' h314 => wtm_at "hp"))
  | ((with_reducible refine' g_dUp ?h315 ?k315); (case' h315 => wtm_at "hp"))
  | ((with_reducible refine' g_kDGetS ?h301 ?l301 ?k301); (case' h301 => wtm_at "hp"); (case' l301 => exact rfl))
  | (with_reducible refine' g_dput ?_)
  | (with_reducible refine' g_iK ?_)
  | ((with_reducible refine' g_disp ?k305); (case' k305 => intro _ _ _ _ _))
  | (with_reducible refine' g_pcons ?_)
  | (with_reducible refine' g_pnil ?_)
  | ((with_reducible refine' g_kDisp ?h306 ?e306 ?f306 ?l306 ?k306); (case' h306 => wtm_at "hp"); (case' e306 => exact rfl); (case' f306 => exact rfl); (case' l306 => wtm_at "ln"); (case' k306 => intro _ _ _))
  | ((with_reducible refine' g_pUp ?h302 ?k302); (case' h302 => wtm_at "hp"); (case' k302 => intro _ _ _))
  | ((with_reducible refine' g_pSt ?h303 ?k303); (case' h303 => wtm_at "hp"); (case' k303 => intro _ _ _))
  | ((with_reducible refine' g_pCe ?h304 ?k304); (case' h304 => wtm_at "hp"); (case' k304 => intro _ _ _)))

local macro_rules | `(tactic| wtm_at "g1") => `(tactic| first
  | ((with_reducible refine' g_hKey (by assumption) ?h501 ?k501); (case' h501 => wtm_at "hp"))
  | ((with_reducible refine' g_hMon (by assumption) ?h502 ?k502); (case' h502 => wtm_at "hp"))
  | ((with_reducible refine' g_hSpe (by assumption) ?h503 ?k503); (case' h503 => wtm_at "hp"))
  | ((with_reducible refine' g_hIss (by assumption) ?h504 ?k504); (case' h504 => wtm_at "hp"))
  | ((with_reducible refine' g_hTak (by assumption) ?h505 ?k505); (case' h505 => wtm_at "hp"))
  | ((with_reducible refine' g_hpMon (by assumption) ?h506 ?k506); (case' h506 => wtm_at "hp"); (case' k506 => intro _ _ _))
  | ((with_reducible refine' g_hpSpe (by assumption) ?h507 ?k507); (case' h507 => wtm_at "hp"); (case' k507 => intro _ _ _))
  | ((with_reducible refine' g_kMeth ?h508 ?l508 ?k508); (case' h508 => wtm_at "hp"); (case' l508 => exact rfl))
  | ((with_reducible refine' g_kDGetI ?h509 ?l509 ?k509); (case' h509 => wtm_at "hp"); (case' l509 => wtm_at "kv"))
  | (with_reducible refine' g_dni ?_)
  | ((with_reducible refine' g_kDNi ?h510 ?k510); (case' h510 => wtm_at "hp"))
  | (with_reducible refine' g_lenSet ?_))
local macro_rules | `(tactic| wtm_at "kv") => `(tactic| first
  | exact kvO_get (by assumption)
  | exact rfl)

def spLTake : Sp := fun vs H Q _ => ∃ (q qi qt : Addr) (bi bk : Int → Addr) (η : Hs) (t : Addr) (z : Cd) (n : Nat), vs = [.ref q, .ref t] ∧ LgAt H q qi qt bi bk η ∧ Hw n η ∧ n < 1000 ∧ H t = some (.tup z.vs) ∧ LDue K H q qi qt bi bk η (.tk z) Q
theorem c__law_take_back (T : Tx K mg) : Cl P w K mg base 2 "_law_take_back" (spLTake (K := K)) [] := by
  refine T.f__law_take_back.cl sc__law_take_back (fun vs H Q E h => ?_) (fun cdv A outer s H vs Q E hr h => ?_)
  · obtain ⟨_, _, _, _, _, _, _, _, _, rfl, _⟩ := h
    rfl
  · obtain ⟨q, qi, qt, bi, bk, η, t, z, n, rfl, L, W, hn, ht, k⟩ := h
    have hu := hu_of hr
    have ob := L.ob
    have hdt := L.dt
    have ht' : SqT K H t [.int z.m, .int z.c, .int z.a, .int z.s] := .of ht
    refine ⟨_, (pss_cons (ps_asg (pv 1) (pgT K 4 rfl (pgs_cons (pg_name (i := 2) sc__law_take_back.nd rfl (Or.inl rfl)) (pgs_cons (pg_name (i := 3) sc__law_take_back.nd rfl (Or.inl rfl)) (pgs_cons (pg_name (i := 4) sc__law_take_back.nd rfl (Or.inl rfl)) (pgs_cons (pg_name (i := 5) sc__law_take_back.nd rfl (Or.inl rfl)) pgs_nil))))))
      (pss_cons (ps_if (PW.pt (pw_or (pt_cmp (pc_dnotin hu (pv 2) (pe_dget hu (pv 0) pe_str (fun _ _ => rfl))) rfl) (pw_or (pt_cmpR op_ne (pv 3) (pe_op op_add (pe_callB (cLen K) (by rfl) T.n_len (by decide +kernel) (pa_cons (pe_dget hu (pe_dget hu (pv 0) pe_str (fun _ _ => rfl)) (pv 2) (fun _ _ => rfl)) pa_nil)) pe_int) (by first | exact nomark _ | rfl)) (pw_or1 (pt_not (pt_chain op_le op_le pe_int (pv 4) pe_int)))))) (pss_one (ps_ret pe_str)) pss_nil)
      (pss_cons (ps_if (pt_cmpR op_ne (pv 5) (q_call (c__law_sign T) hr (by decide) rfl (passes_call (takes_of rfl rfl rfl rfl) (fun _ _ _ _ h => h)) (pa_cons (pe_dget hu (pv 0) pe_str (fun _ _ => rfl)) (pa_cons (pv 2) (pa_cons (pv 3) (pa_cons (pv 4) (pa_cons pe_int pa_nil)))))) (by first | exact nomark _ | rfl)) (pss_one (ps_ret pe_str)) pss_nil)
      (pss_cons (ps_dput hu (pe_dget hu (pv 0) pe_str (fun _ _ => rfl)) (pv 2) (pe_op op_cat (pe_dget hu (pe_dget hu (pv 0) pe_str (fun _ _ => rfl)) (pv 2) (fun _ _ => rfl)) (pe_lst (pa_cons (pv 1) pa_nil))) rfl)
      (pss_cons (ps_dput hu (pv 0) pe_str (pe_op op_add (pe_dget hu (pv 0) pe_str (fun _ _ => rfl)) (pv 4)) rfl)
      (pss_one (ps_ret (pv 4)))))))), ?_⟩
    have bad : resH η (.tk z) = some .code → ∀ H', Mx [] H H' → Q (.str "BadCode") H' := fun er H' mm => by
      have := k (.str "BadCode") bi bk H' Old.refl Old.refl mm.of0
      rw [dueH_ref er] at this
      exact this (L.mx0 mm) (.str _)
    wtm_at "go"
    rw [kvO_in]
    refine g_ite (fun e => ?_) (fun e => ?_)
    · refine g_yes rfl ?_
      wtm_at "go"
      exact bad (by simp [resH]; intro hh; exact absurd hh (by simpa using e)) _ Mx.refl
    · have hm : z.m ∈ η.ms := by simpa using e
      obtain ⟨us, eu, du⟩ := L.lk z.m hm
      have lu : us.length = (η.tkn z.m).length := du.len
      have hlk := W.lk z.m hm
      have hmb := W.mb z.m hm
      have hkk := W.kk
      have bad2 : good η.key z z.m ((η.tkn z.m).length + 1) 2 = false → ∀ H', Mx [] H H' → Q (.str "BadCode") H' := fun hg => bad (by simp [resH, hm, hg])
      wtm_at "go"
      rw [lu]
      refine g_ite (fun e2 => ?_) (fun e2 => ?_)
      · refine g_yes rfl ?_
        wtm_at "go"
        refine bad2 ?_ _ Mx.refl
        have : ¬ z.c = ((η.tkn z.m).length : Int) + 1 := by simpa using e2
        simp [good, this]
      · have hc : z.c = ((η.tkn z.m).length : Int) + 1 := by simpa using e2
        wtm_at "go"
        refine g_ite (fun e3 => ?_) (fun e3 => ?_)
        · wtm_at "go"
          refine g_ite (fun e4 => ?_) (fun e4 => ?_)
          · wtm_at "go"
            refine bad2 ?_ _ Mx.refl
            have : amt z.a = false := by simp at e3 e4; simp [amt]; omega
            simp [good, this]
          · have ea : amt z.a = true := by simp at e3 e4; simp [amt]; omega
            have ha := amt_iff.mp ea
            wtm_at "go"
            refine ⟨η.key, z.m, z.c, z.a, 2, rfl, (by unfold Bd; omega), (by unfold Bd; omega), (by unfold Bd; omega), (by unfold Bd; omega), (by unfold Bd; omega), ?_⟩
            wtm_at "go"
            refine g_ite (fun e5 => ?_) (fun e5 => ?_)
            · wtm_at "go"
              refine bad2 ?_ _ Mx.refl
              have : ¬ z.s = sgn η.key z.m z.c z.a 2 := by simpa using e5
              rw [hc] at this
              simp [good, this]
            · have hs : z.s = sgn η.key z.m z.c z.a 2 := by simpa using e5
              have er : resH η (.tk z) = none := by
                have : good η.key z z.m ((η.tkn z.m).length + 1) 2 = true := by
                  rw [hc] at hs
                  simp [good, ea, hc, hs]
                simp [resH, hm, this]
              wtm_at "go"
              rename_i l3 H3 n3 m3 e3 l4 H4 n4 m4 e4
              have c4 := m3.trans m4
              have hdt4 := c4.get0 hdt
              have ob4 := c4.get0 ob
              refine g_kDPutJ hdt4 (kvO_put hm) (by rw [kvO_len]; have := W.ln; omega) fun H5 m5 e5' => ?_
              have nt4 : NoTup H4 [qt] := noTupD hdt4
              have L4 := L.mx0 c4
              have ob5 : H5 q = some (.dK (lgKvs { η with tkn := setM η.tkn z.m (η.tkn z.m ++ [z]) } qi qt)) := m5 _ _ ob4 (by simpa using L.ne.2.1)
              have ht5 := mx_tup m5 nt4 (c4.get0 ht)
              have ht5' : SqT K H5 t [.int z.m, .int z.c, .int z.a, .int z.s] := .of ht5
              have q5 : H l4 = none := m3.free0 n4
              have l4q : l4 ≠ qt := (ne_of_none (m3.get0 hdt) n4).symm
              have L5 : LgAt H5 q qi qt bi (setM bk z.m l4) { η with tkn := setM η.tkn z.m (η.tkn z.m ++ [z]) } := by
                refine ⟨ob5, m5 _ _ L4.di (by simpa using L.ne.2.2), e5', L4.li.mx m5 nt4 (fun j hj => by obtain ⟨us, eu, _⟩ := L4.li j hj; simp; exact (ne_of hdt4 eu fun z => nomatch z).symm), fun j hj => ?_, L.ne⟩
                show ∃ us, H5 (setM bk z.m l4 j) = some (.lst us) ∧ CdAll H5 us (setM η.tkn z.m (η.tkn z.m ++ [z]) j)
                by_cases h : j = z.m
                · subst h
                  rw [setM_same, setM_same]
                  exact ⟨_, m5 _ _ e4 (by simpa using l4q), ((du.mx c4 noTup0).mx m5 nt4).app ⟨⟨t, rfl, ht5⟩, trivial⟩⟩
                · rw [setM_ne h, setM_ne h]
                  obtain ⟨us2, eu2, du2⟩ := L4.lk j hj
                  exact ⟨us2, m5 _ _ eu2 (by simp; exact (ne_of hdt4 eu2 fun z => nomatch z).symm), du2.mx m5 nt4⟩
              wtm_at "go"
              refine g_kDPutS ob5 rfl (by show 5 ≤ 100; decide) fun H6 m6 e6 => ?_
              have e6' : H6 q = some (.dK (lgKvs (newH η (.tk z)) qi qt)) := e6
              clear e6
              wtm_at "go"
              have := k (.int z.a) bi (setM bk z.m l4) H6 Old.refl (Old.setM q5) (c4.of0.trans ((m5.mono (by simp)).trans (m6.mono (by simp))))
              rw [dueH_ok er] at this
              exact this (L5.fld m6 e6' rfl rfl rfl) (.int _)
        · wtm_at "go"
          refine g_yes rfl ?_
          wtm_at "go"
          refine bad2 ?_ _ Mx.refl
          have : amt z.a = false := by simp at e3; simp [amt]; omega
          simp [good, this]
def spLDueH : Sp := fun vs H Q _ => ∃ (q qi qt : Addr) (bi bk : Int → Addr) (η : Hs) (t : Addr) (d : HD) (n : Nat), vs = [.ref q, .ref t] ∧ LgAt H q qi qt bi bk η ∧ Hw n η ∧ n < 1000 ∧ HdAt H t d ∧ LDue K H q qi qt bi bk η d Q
theorem c__law_due (T : Tx K mg) : Cl P w K mg base 4 "_law_due" (spLDueH (K := K)) [] := by
  refine T.f__law_due.cl sc__law_due (fun vs H Q E h => ?_) (fun cdv A outer s H vs Q E hr h => ?_)
  · obtain ⟨_, _, _, _, _, _, _, _, _, rfl, _⟩ := h
    rfl
  · obtain ⟨q, qi, qt, bi, bk, η, t, d, n, rfl, L, W, hn, hd, k⟩ := h
    refine ⟨_, (pss_cons (ps_if (pt_cmpR op_eq (pe_ix (ixT K) (pv 1) pe_int (fun _ _ => rfl)) pe_str (by first | exact nomark _ | rfl)) (pss_one (ps_ret (q_call (c__law_buy T) hr (by decide) rfl (passes_call (takes_of rfl rfl rfl rfl) (fun _ _ _ _ h => h)) (pa_cons (pv 0) (pa_cons (pe_ix (ixT K) (pv 1) pe_int (fun _ _ => rfl)) pa_nil))))) pss_nil)
      (pss_one (ps_ret (pe_ifExp (pt_cmpR op_eq (pe_ix (ixT K) (pv 1) pe_int (fun _ _ => rfl)) pe_str (by first | exact nomark _ | rfl)) (q_call (c__law_issue T) hr (by decide) rfl (passes_call (takes_of rfl rfl rfl rfl) (fun _ _ _ _ h => h)) (pa_cons (pv 0) (pa_cons (pe_ix (ixT K) (pv 1) pe_int (fun _ _ => rfl)) (pa_cons (pe_ix (ixT K) (pv 1) pe_int (fun _ _ => rfl)) pa_nil)))) (q_call (c__law_take_back T) hr (by decide) rfl (passes_call (takes_of rfl rfl rfl rfl) (fun _ _ _ _ h => h)) (pa_cons (pv 0) (pa_cons (pe_ix (ixT K) (pv 1) pe_int (fun _ _ => rfl)) pa_nil))))))), ?_⟩
    cases d with
    | buy a =>
      have ht : H t = some (.tup [.str "buy", .int a]) := hd
      wtm_at "go"
      refine g_yes (by decide +kernel) ?_
      wtm_at "go"
      exact ⟨q, qi, qt, bi, bk, η, a, rfl, L, k⟩
    | iss m a =>
      have ht : H t = some (.tup [.str "issue", .int m, .int a]) := hd
      wtm_at "go"
      refine g_no (by decide +kernel) ?_
      wtm_at "go"
      refine g_yes (by decide +kernel) ?_
      wtm_at "go"
      exact ⟨q, qi, qt, bi, bk, η, m, a, n, rfl, L, W, hn, k⟩
    | tk z =>
      obtain ⟨c, ht, hc⟩ := hd
      wtm_at "go"
      refine g_no (by decide +kernel) ?_
      wtm_at "go"
      refine g_no (by decide +kernel) ?_
      wtm_at "go"
      exact ⟨q, qi, qt, bi, bk, η, c, z, n, rfl, L, W, hn, hc, k⟩
/-- what the house does -/
def spDoesH (T : Tx K mg) : Sp := fun vs H Q E => ∃ (h di dt : Addr) (ai ak : Int → Addr) (η : Hs) (t : Addr) (d : HD) (n : Nat), vs = [.ref h, .ref t] ∧ HsAt T.C_House H h di dt ai ak η ∧ Hin η.ms ai ak ∧ Hw n η ∧ n < 1000 ∧ HdAt H t d ∧
  (∀ r, resH η d = some r → E (.ref (r.at T)) none H) ∧ (resH η d = none → ∀ v S H', (∀ x ∈ S, x = h ∨ (∃ m ∈ η.ms, x = ai m) ∨ ∃ m ∈ η.ms, x = ak m) → Mx S H H' → HsAt T.C_House H' h di dt ai ak (newH η d) → Dp K H' v (telH η d) → Q v H')
theorem c__law_does (T : Tx K mg) : Cl P w K mg base 4 "_law_does" (spDoesH T) [] := by
  refine T.f__law_does.cl sc__law_does (fun vs H Q E h => ?_) (fun cdv A outer s H vs Q E hr h => ?_)
  · obtain ⟨_, _, _, _, _, _, _, _, _, rfl, _⟩ := h
    rfl
  · obtain ⟨h, di, dt, ai, ak, η, t, d, n, rfl, M, I, W, hn, hd, q1, q2⟩ := h
    obtain ⟨dx, ob⟩ := M.ob
    refine ⟨_, (pss_cons (ps_if (pt_cmpR op_eq (pe_ix (ixT K) (pv 1) pe_int (fun _ _ => rfl)) pe_str (by first | exact nomark _ | rfl)) (pss_one (ps_ret (q_meth (mt_House_buy T) hr (by decide) (pv 0) (passes_call (takes_of rfl rfl rfl rfl) (fun _ _ _ _ h => h)) (pa_cons (pe_ix (ixT K) (pv 1) pe_int (fun _ _ => rfl)) pa_nil)))) pss_nil)
      (pss_one (ps_ret (pe_ifExp (pt_cmpR op_eq (pe_ix (ixT K) (pv 1) pe_int (fun _ _ => rfl)) pe_str (by first | exact nomark _ | rfl)) (q_meth (mt_House_issue T) hr (by decide) (pv 0) (passes_call (takes_of rfl rfl rfl rfl) (fun _ _ _ _ h => h)) (pa_cons (pe_ix (ixT K) (pv 1) pe_int (fun _ _ => rfl)) (pa_cons (pe_ix (ixT K) (pv 1) pe_int (fun _ _ => rfl)) pa_nil))) (q_meth (mt_House_take_back T) hr (by decide) (pv 0) (passes_call (takes_of rfl rfl rfl rfl) (fun _ _ _ _ h => h)) (pa_cons (pe_ix (ixT K) (pv 1) pe_int (fun _ _ => rfl)) pa_nil)))))), ?_⟩
    cases d with
    | buy a =>
      have ht : H t = some (.tup [.str "buy", .int a]) := hd
      wtm_at "go"
      refine g_yes (by decide +kernel) ?_
      wtm_at "go"
      exact ⟨h, di, dt, ai, ak, η, a, rfl, M, q1, fun hr H' m M' => q2 hr _ [h] H' (fun x hx => .inl (by simpa using hx)) m M' (.int _)⟩
    | iss m a =>
      have ht : H t = some (.tup [.str "issue", .int m, .int a]) := hd
      wtm_at "go"
      refine g_no (by decide +kernel) ?_
      wtm_at "go"
      refine g_yes (by decide +kernel) ?_
      wtm_at "go"
      exact ⟨h, di, dt, ai, ak, η, m, a, n, rfl, M, I, W, hn, q1, fun hr hm t H' _ mm et M' => q2 hr _ [h, ai m] H' (fun x hx => by simp at hx; rcases hx with rfl | rfl; exact .inl rfl; exact .inr (.inl ⟨m, hm, rfl⟩)) mm M' (.tup (.of et) (.cons (.int _) (.cons (.int _) (.cons (.int _) (.cons (.int _) .nil)))))⟩
    | tk z =>
      obtain ⟨c, ht, hc⟩ := hd
      wtm_at "go"
      refine g_no (by decide +kernel) ?_
      wtm_at "go"
      refine g_no (by decide +kernel) ?_
      wtm_at "go"
      exact ⟨h, di, dt, ai, ak, η, c, z, n, rfl, M, I, W, hn, hc, q1, fun hr hm H' mm M' => q2 hr _ [h, ak z.m] H' (fun x hx => by simp at hx; rcases hx with rfl | rfl; exact .inl rfl; exact .inr (.inr ⟨z.m, hm, rfl⟩)) mm M' (.int _)⟩
end
end Fk
namespace Fk
open PySem PySem.Spec PyProof.Rows L2
local macro_rules | `(tactic| wtm_at "ln") => `(tactic| first
  | omega
  | (simp only [List.length_cons, List.length_nil, List.length_map, List.length_append, List.length_replicate, List.length_take, List.length_drop, List.length_set]; omega)
  | (with_unfolding_all exact (by decide)))
local macro_rules | `(tactic| wtm_at "ar") => `(tactic| first
  | ((with_reducible show CMulW _ _); (refine' mulS ?_ ?_ <;> omega))
  | ((with_reducible show CDivW _ _); (refine' divS ?_ ?_ <;> omega))
  | ((with_reducible show CPow _ _); exact ⟨by decide, by decide, by decide⟩)
  | (show (0 : Int) < _; omega)
  | (with_unfolding_all exact (by decide)))
local macro_rules | `(tactic| wtm_at "at") => `(tactic| first
  | assumption
  | (refine' cl_atE ?e80 ?h80; (case' e80 => first | exact rfl | assumption); (case' h80 => wtm_at "ln"))
  | exact rfl)
local macro_rules | `(tactic| wtm_at "fr") => `(tactic| first
  | assumption
  | ((with_reducible refine' Mx.free0 ?m99 ?h99); (case' h99 => assumption); (case' m99 => wtm_at "mo")))
local macro_rules | `(tactic| wtm_at "hp") => `(tactic| first
  | assumption
  | ((with_reducible refine' Mx.get0 ?m1 ?h1); (case' m1 => assumption); (case' h1 => wtm_at "hp"))
  | ((with_reducible refine' Mx.get ?m2 ?n2 ?h2); (case' m2 => assumption); (case' n2 => wtm_at "nin"); (case' h2 => wtm_at "hp")))
local macro_rules | `(tactic| wtm_at "sl") => `(tactic| first
  | assumption
  | ((with_reducible refine' Mx.sqL0 ?m96 ?h96); (case' h96 => assumption); (case' m96 => wtm_at "mo"))
  | (refine' SqL.of ?h3; (case' h3 => wtm_at "hp"))
  | ((with_reducible refine' Mx.sqL0 ?m4 ?h4); (case' m4 => assumption); (case' h4 => wtm_at "sl"))
  | ((with_reducible refine' Mx.sqL ?m5 ?n5 ?h5); (case' m5 => assumption); (case' n5 => wtm_at "nin"); (case' h5 => wtm_at "sl")))
local macro_rules | `(tactic| wtm_at "st") => `(tactic| first
  | assumption
  | ((with_reducible refine' Mx.sqT0 ?m97 ?h97); (case' h97 => assumption); (case' m97 => wtm_at "mo"))
  | (refine' SqT.of ?h6; (case' h6 => wtm_at "hp"))
  | ((with_reducible refine' Mx.sqT0 ?m7 ?h7); (case' m7 => assumption); (case' h7 => wtm_at "st"))
  | ((with_reducible refine' Mx.sqT ?m8 ?n8 ?h8); (case' m8 => assumption); (case' n8 => wtm_at "nin"); (case' h8 => wtm_at "st")))
local macro_rules | `(tactic| wtm_at "mx") => `(tactic| first
  | assumption
  | exact Mx.refl
  | ((with_reducible refine' Mx.of0 ?h9); (case' h9 => assumption))
  | ((with_reducible refine' Mx.trans ?h10 ?m10); (case' m10 => first | assumption | ((with_reducible refine' Mx.of0 ?q10); (case' q10 => assumption))); (case' h10 => wtm_at "mx")))
local macro_rules | `(tactic| wtm_at "mo") => `(tactic| first
  | wtm_at "mx"
  | ((with_reducible refine' Mx.own ?m90 ?f90 ?k90); (case' k90 => assumption); (case' f90 => wtm_at "fr"); (case' m90 => wtm_at "mo"))
  | ((with_reducible refine' Mx.trans ?h91 ?m91); (case' m91 => first | assumption | ((with_reducible refine' Mx.of0 ?q91); (case' q91 => assumption))); (case' h91 => wtm_at "mo")))
local macro_rules | `(tactic| wtm_at "ne") => `(tactic| first
  | assumption
  | exact Ne.symm (by assumption)
  | ((with_reducible refine' ne_of_none ?x94 ?y94); (case' y94 => assumption); (case' x94 => wtm_at "hp"))
  | ((with_reducible refine' Ne.symm (ne_of_none ?x95 ?y95)); (case' y95 => assumption); (case' x95 => wtm_at "hp")))
local macro_rules | `(tactic| wtm_at "nin") => `(tactic| first
  | assumption
  | exact List.not_mem_nil
  | ((with_reducible refine' List.not_mem_cons_of_ne_of_not_mem ?h98 ?t98); (case' h98 => wtm_at "ne"); (case' t98 => wtm_at "nin")))
local macro_rules | `(tactic| wtm_at "g1") => `(tactic| first
  | ((with_reducible refine' g_var ?h11 ?k11); (case' h11 => exact rfl))
  | with_reducible refine' g_c ?_
  | with_reducible refine' g_op ?_
  | with_reducible refine' g_I0 ?_
  | ((with_reducible refine' g_I ?c12 ?k12); (case' c12 => wtm_at "ar"))
  | with_reducible refine' g_cons ?_
  | with_reducible refine' g_nil ?_
  | with_reducible refine' g_seq ?_
  | with_reducible refine' g_asg ?_
  | with_reducible refine' g_name ?_
  | with_reducible refine' g_ret ?_
  | with_reducible refine' g_if ?_
  | with_reducible refine' g_test ?_
  | with_reducible refine' g_tB ?_
  | with_reducible refine' g_bl ?_
  | ((with_reducible refine' g_eq ?h13 ?k13); (case' h13 => exact rfl))
  | ((with_reducible refine' g_ne ?h14 ?k14); (case' h14 => exact rfl))
  | with_reducible refine' g_CB ?_
  | with_reducible refine' g_call ?_
  | with_reducible refine' g_drop ?_
  | with_reducible refine' g_next ?_
  | with_reducible refine' g_not ?_
  | with_reducible refine' g_and ?_
  | with_reducible refine' g_or ?_
  | with_reducible refine' g_un ?_
  | with_reducible refine' g_U ?_
  | with_reducible refine' g_tup ?_
  | with_reducible refine' g_lst ?_
  | ((with_reducible refine' g_kNew ?h15 ?k15); (case' h15 => wtm_at "ln"); (case' k15 => intro _ _ _ _ _))
  | ((with_reducible refine' g_ixL ?h16 ?a16 ?k16); (case' h16 => wtm_at "sl"); (case' a16 => wtm_at "at"))
  | ((with_reducible refine' g_ixT ?h17 ?a17 ?k17); (case' h17 => wtm_at "st"); (case' a17 => wtm_at "at"))
  | with_reducible refine' g_slice ?_
  | with_reducible refine' g_part ?_
  | with_reducible refine' g_kPart ?_
  | with_reducible refine' g_noPart ?_
  | ((with_reducible refine' g_slL ?h18 ?k18); (case' h18 => wtm_at "sl"); (case' k18 => intro _ _ _ _ _))
  | ((with_reducible refine' g_cat ?h119 ?h219 ?l19 ?k19); (case' h119 => wtm_at "hp"); (case' h219 => wtm_at "hp"); (case' l19 => wtm_at "ln"); (case' k19 => intro _ _ _ _ _))
  | ((with_reducible refine' g_rep ?h120 ?h220 ?h320 ?l20 ?k20); (case' h120 => wtm_at "hp"); (case' h220 => wtm_at "ln"); (case' h320 => wtm_at "ln"); (case' l20 => wtm_at "ln"); (case' k20 => intro _ _ _ _ _))
  | ((with_reducible refine' g_append ?h21 ?l21 ?k21); (case' h21 => wtm_at "hp"); (case' l21 => wtm_at "ln"); (case' k21 => intro _ _ _))
  | ((with_reducible refine' g_kBM ?h22 ?k22); (case' h22 => wtm_at "sl"))
  | ((with_reducible refine' g_kBM0 ?h23 ?k23); (case' h23 => wtm_at "sl"))
  | ((with_reducible refine' g_kL ?h24 ?k24); (case' h24 => wtm_at "sl"))
  | ((with_reducible refine' g_kR1 ?h125 ?h225 ?k25); (case' h125 => wtm_at "ln"); (case' h225 => wtm_at "ln"))
  | ((with_reducible refine' g_kR2 ?h126 ?h226 ?h326 ?h426 ?k26); (case' h126 => wtm_at "ln"); (case' h226 => wtm_at "ln"); (case' h326 => wtm_at "ln"); (case' h426 => wtm_at "ln"))
  | ((with_reducible refine' g_lenL ?h27 ?k27); (case' h27 => wtm_at "sl"))
  | ((with_reducible refine' g_lenT ?h28 ?k28); (case' h28 => wtm_at "st"))
  | ((with_reducible refine' g_listL ?h29 ?k29); (case' h29 => wtm_at "sl"); (case' k29 => intro _ _ _ _ _))
  | ((with_reducible refine' g_tupleL ?h30 ?k30); (case' h30 => wtm_at "sl"); (case' k30 => intro _ _ _ _ _))
  | with_reducible refine' g_max ?_
  | with_reducible refine' g_min ?_
  | with_reducible refine' g_intB ?_
  | with_reducible refine' g_fld ?_
  | with_reducible refine' g_put ?_
  | with_reducible refine' g_dget ?_
  | with_reducible refine' g_isN ?_
  | with_reducible refine' g_notN ?_
  | with_reducible refine' g_ifE ?_
  | with_reducible refine' g_andV ?_
  | with_reducible refine' g_orV ?_
  | with_reducible refine' g_notV ?_
  | with_reducible refine' g_kIf ?_
  | with_reducible refine' g_chain ?_
  | with_reducible refine' g_kCh ?_
  | with_reducible refine' g_sub ?_
  | ((with_reducible refine' g_setI ?h92 ?e92 ?j92 ?k92); (case' h92 => wtm_at "hp"); (case' e92 => first | exact rfl | assumption); (case' j92 => wtm_at "ln"); (case' k92 => intro _ _ _))
  | ((with_reducible refine' g_setL ?h89 ?i89 ?k89); (case' h89 => wtm_at "hp"); (case' i89 => exact ixE rfl (by wtm_at "ln")); (case' k89 => intro _ _ _))
  | ((with_reducible refine' g_gtup ?h93 ?e93 ?k93); (case' h93 => wtm_at "st"); (case' e93 => exact rfl))
  | with_reducible refine' g_gcons ?_
  | with_reducible refine' g_gnil ?_
  | with_reducible refine' g_par ?_
  | with_reducible refine' g_kPar ?_
  | with_reducible refine' g_meth ?_
  | with_reducible refine' g_bm ?_
  | with_reducible refine' g_bm0 ?_
  | with_reducible refine' g_raise ?_
  | with_reducible refine' g_for ?_
  | with_reducible refine' g_iR1 ?_
  | with_reducible refine' g_iR2 ?_
  | with_reducible refine' g_iL ?_
  | with_reducible refine' g_lc ?_
  | with_reducible refine' g_retN ?_
  | with_reducible refine' g_no (b := false) rfl ?_
  | with_reducible refine' g_yes (b := true) rfl ?_)
local macro_rules | `(tactic| wtm_at "go") => `(tactic| repeat (wtm_at "g1"))
local macro_rules | `(tactic| wtm_at "gs") => `(tactic| repeat ((fail_if_success (with_reducible refine' g_ifE ?_)); wtm_at "g1"))
local macro_rules | `(tactic| wtm_at "gi") => `(tactic| repeat ((fail_if_success (with_reducible refine' g_if ?_)); wtm_at "g1"))
local macro_rules | `(tactic| wtm_at "gr") => `(tactic| repeat ((fail_if_success (with_reducible refine' g_ret ?_)); wtm_at "g1"))
local macro_rules | `(tactic| wtm_at "gq") => `(tactic| repeat ((fail_if_success (with_reducible refine' g_asg ?_)); wtm_at "g1"))

theorem g_sortD {H : Hp} {Q : VK} {a : Addr} {kvs : List (Key × V)} {ks : List Int} (h : H a = some (.dK kvs)) (e : kvs.map (·.1) = ks.map Sum.inl) (hl : ks.length < 64) (k : ∀ (ys : List Int) (p : Addr) (H' : Hp), ys.Perm ks → H p = none → Mx [] H H' → H' p = some (.lst (ys.map V.int)) → Q (.ref p) H') : rSortD [.ref a] H Q :=
  ⟨a, kvs, ks, rfl, .inl h, e, hl, fun ys p h1 _ hp => k ys p _ h1 hp (.new hp) upd_same⟩
theorem kvO_keys {ms : List Int} {a : Int → Addr} : (kvO ms a).map (·.1) = ms.map Sum.inl := by unfold kvO; rw [List.map_map]; rfl
theorem cl_mem {xs : List Int} {i : Nat} (h : i < xs.length) : cl xs i ∈ xs := by
  unfold cl
  rw [List.getD_eq_getElem?_getD, List.getElem?_eq_getElem h]
  exact List.getElem_mem h
theorem LgAt.mr {K : PySem.W.Frag} {H0 H H' : Hp} {r q qi qt : Addr} {bi bk : Int → Addr} {η : Hs} (L : LgAt H q qi qt bi bk η) (m : Mx [r] H H') (s : StAt K H0 H r) (f : r ∉ ftH q qi qt bi bk η.ms) : LgAt H' q qi qt bi bk η := L.mx m s.nt fun x hx => by simp; rintro rfl; exact f hx
def Odc (H : Hp) (v : V) : Prop := ∃ t z, v = .ref t ∧ H t = some (.tup (Cd.vs z))
theorem Odc.mx {S : List Addr} {H H' : Hp} {v : V} (h : Odc H v) (m : Mx S H H') (n : NoTup H S) : Odc H' v := by
  obtain ⟨t, z, e, h1⟩ := h
  exact ⟨t, z, e, mx_tup m n h1⟩
def Ods (H : Hp) (l : Addr) (k : Nat) : Prop := ∃ vs, H l = some (.lst vs) ∧ vs.length = k ∧ ∀ v ∈ vs, Odc H v
theorem ods_app {H H' : Hp} {l l' : Addr} {vs ws : List V} {k j : Nat} (h : Ods H l k) (m : Mx [] H H') (e0 : H l = some (.lst vs)) (e : H' l' = some (.lst (vs ++ ws))) (hj : ws.length = j) (hw : ∀ v ∈ ws, Odc H' v) : Ods H' l' (k + j) := by
  obtain ⟨us, h1, h2, h3⟩ := h
  rw [e0] at h1
  cases h1
  refine ⟨vs ++ ws, e, by rw [List.length_append, h2, hj], fun v hv => ?_⟩
  rcases List.mem_append.mp hv with z | z
  · exact Odc.mx (h3 v z) m noTup0
  · exact hw v z
theorem cutV_mem {us : List V} {a b : Option Int} {v : V} (h : v ∈ cutV us a b) : v ∈ us := by
  unfold cutV at h
  exact List.mem_of_mem_drop (List.mem_of_mem_take h)
theorem cutV_len {us : List V} {a b : Option Int} : (cutV us a b).length ≤ us.length := by
  unfold cutV
  rw [List.length_take, List.length_drop]
  omega
theorem CdAll.mem {H : Hp} {us : List V} {zs : List Cd} (h : CdAll H us zs) {v : V} (hv : v ∈ us) : Odc H v := by
  obtain ⟨i, hi, rfl⟩ := List.mem_iff_getElem.mp hv
  obtain ⟨z, t, _, e1, e2⟩ := h.get' (List.getElem?_eq_getElem hi)
  exact ⟨t, z, e1, e2⟩
section
variable {P : Program} {w : World} {K : PySem.W.Frag} {mg : Str → Option Value} {base : Heap}
local macro_rules | `(tactic| wtm_at "g1") => `(tactic| first
  | ((with_reducible refine' g_fOwn (by assumption) ?h201 ?k201); (case' h201 => wtm_at "hp"))
  | ((with_reducible refine' g_fKey (by assumption) ?h202 ?k202); (case' h202 => wtm_at "hp"))
  | ((with_reducible refine' g_fMem (by assumption) ?h203 ?k203); (case' h203 => wtm_at "hp"))
  | ((with_reducible refine' g_fPri (by assumption) ?h204 ?k204); (case' h204 => wtm_at "hp"))
  | ((with_reducible refine' g_fAwa (by assumption) ?h205 ?k205); (case' h205 => wtm_at "hp"))
  | ((with_reducible refine' g_pAwa (by assumption) ?h206 ?k206); (case' h206 => wtm_at "hp"); (case' k206 => intro _ _ _))
  | ((with_reducible refine' g_kMeth ?h207 ?l207 ?k207); (case' h207 => wtm_at "hp"); (case' l207 => exact rfl)))

local macro_rules | `(tactic| wtm_at "g1") => `(tactic| first
  | ((with_reducible refine' g_dNum ?h311 ?k311); (case' h311 => wtm_at "hp"))
  | ((with_reducible refine' g_dKey ?h312 ?k312); (case' h312 => wtm_at "hp"))
  | ((with_reducible refine' g_dCe ?h313 ?k313); (case' h313 => wtm_at "hp"))
  | ((with_reducible refine' g_dSt ?h314 ?k314); (case' h314 => wtm_at "hp"))
  | ((with_reducible refine' g_dUp ?h315 ?k315); (case' h315 => wtm_at "hp"))
  | ((with_reducible refine' g_kDGetS ?h301 ?l301 ?k301); (case' h301 => wtm_at "hp"); (case' l301 => exact rfl))
  | (with_reducible refine' g_dput ?_)
  | (with_reducible refine' g_iK ?_)
  | ((with_reducible refine' g_disp ?k305); (case' k305 => intro _ _ _ _ _))
  | (with_reducible refine' g_pcons ?_)
  | (with_reducible refine' g_pnil ?_)
  | ((with_reducible refine' g_kDisp ?h306 ?e306 ?f306 ?l306 ?k306); (case' h306 => wtm_at "hp"); (case' e306 => exact rfl); (case' f306 => exact rfl); (case' l306 => wtm_at "ln"); (case' k306 => intro _ _ _))
  | ((with_reducible refine' g_pUp ?h302 ?k302); (case' h302 => wtm_at "hp"); (case' k302 => intro _ _ _))
  | ((with_reducible refine' g_pSt ?h303 ?k303); (case' h303 => wtm_at "hp"); (case' k303 => intro _ _ _))
  | ((with_reducible refine' g_pCe ?h304 ?k304); (case' h304 => wtm_at "hp"); (case' k304 => intro _ _ _)))

local macro_rules | `(tactic| wtm_at "g1") => `(tactic| first
  | ((with_reducible refine' g_hKey (by assumption) ?h501 ?k501); (case' h501 => wtm_at "hp"))
  | ((with_reducible refine' g_hMon (by assumption) ?h502 ?k502); (case' h502 => wtm_at "hp"))
  | ((with_reducible refine' g_hSpe (by assumption) ?h503 ?k503); (case' h503 => wtm_at "hp"))
  | ((with_reducible refine' g_hIss (by assumption) ?h504 ?k504); (case' h504 => wtm_at "hp"))
  | ((with_reducible refine' g_hTak (by assumption) ?h505 ?k505); (case' h505 => wtm_at "hp"))
  | ((with_reducible refine' g_hpMon (by assumption) ?h506 ?k506); (case' h506 => wtm_at "hp"); (case' k506 => intro _ _ _))
  | ((with_reducible refine' g_hpSpe (by assumption) ?h507 ?k507); (case' h507 => wtm_at "hp"); (case' k507 => intro _ _ _))
  | ((with_reducible refine' g_kMeth ?h508 ?l508 ?k508); (case' h508 => wtm_at "hp"); (case' l508 => exact rfl))
  | ((with_reducible refine' g_kDGetI ?h509 ?l509 ?k509); (case' h509 => wtm_at "hp"); (case' l509 => wtm_at "kv"))
  | (with_reducible refine' g_dni ?_)
  | ((with_reducible refine' g_kDNi ?h510 ?k510); (case' h510 => wtm_at "hp"))
  | (with_reducible refine' g_lenSet ?_))
local macro_rules | `(tactic| wtm_at "kv") => `(tactic| first
  | exact kvO_get (by assumption)
  | exact rfl)

def spLBack : Sp := fun vs H Q _ => ∃ (H0 : Hp) (r q qi qt : Addr) (bi bk : Int → Addr) (η : Hs) (n : Nat), vs = [.ref r, .ref q] ∧ StAt K H0 H r ∧ LgAt H q qi qt bi bk η ∧ Hw n η ∧ n < 1000 ∧ r ∉ ftH q qi qt bi bk η.ms ∧
  ∀ t z H', Mx [r] H H' → StAt K H0 H' r → H' t = some (.tup (Cd.vs z)) → Q (.ref t) H'
theorem c__law_back (T : Tx K mg) : Cl P w K mg base 3 "_law_back" (spLBack (K := K)) [] := by
  refine T.f__law_back.cl sc__law_back (fun vs H Q E h => ?_) (fun cdv A outer s H vs Q E hr h => ?_)
  · obtain ⟨_, _, _, _, _, _, _, _, _, rfl, _⟩ := h
    rfl
  · obtain ⟨H0, r, q, qi, qt, bi, bk, η, n, rfl, S, L, W, hn, nr, fin⟩ := h
    have hu := hu_of hr
    have ob := L.ob
    have hdt := L.dt
    have hln := W.ln
    refine ⟨_, (pss_cons (ps_set (i := 2) sc__law_back.nd rfl (Or.inl rfl) (pe_callB (cSortD rfl) (by rfl) T.n_sorted (by decide +kernel) (pa_cons (pe_dget hu (pv 1) pe_str (fun _ _ => rfl)) pa_nil)))
      (pss_cons (ps_set (i := 3) sc__law_back.nd rfl (Or.inl rfl) (pe_ix (ixL K) (pv 2) (q_call (c__law_drawn T) hr (by decide) rfl (passes_call (takes_of rfl rfl rfl rfl) (fun _ _ _ _ h => h)) (pa_cons (pv 0) (pa_cons (pe_callB (cLen K) (by rfl) T.n_len (by decide +kernel) (pa_cons (pv 2) pa_nil)) pa_nil))) (fun _ _ => rfl)))
      (pss_cons (ps_set (i := 4) sc__law_back.nd rfl (Or.inl rfl) (pe_op op_add (pe_callB (cLen K) (by rfl) T.n_len (by decide +kernel) (pa_cons (pe_dget hu (pe_dget hu (pv 1) pe_str (fun _ _ => rfl)) (pv 3) (fun _ _ => rfl)) pa_nil)) pe_int))
      (pss_cons (ps_set (i := 5) sc__law_back.nd rfl (Or.inl rfl) (q_call (c__law_amount T) hr (by decide) rfl (passes_call (takes_of rfl rfl rfl rfl) (fun _ _ _ _ h => h)) (pa_cons (pv 0) pa_nil)))
      (pss_cons (ps_set (i := 6) sc__law_back.nd rfl (Or.inl rfl) (q_call (c__law_code T) hr (by decide) rfl (passes_call (takes_of rfl rfl rfl rfl) (fun _ _ _ _ h => h)) (pa_cons (pe_dget hu (pv 1) pe_str (fun _ _ => rfl)) (pa_cons (pv 3) (pa_cons (pv 4) (pa_cons (pv 5) (pa_cons pe_int pa_nil)))))))
      (pss_cons (ps_set (i := 7) sc__law_back.nd rfl (Or.inl rfl) (pe_op op_add pe_int (q_call (c__law_drawn T) hr (by decide) rfl (passes_call (takes_of rfl rfl rfl rfl) (fun _ _ _ _ h => h)) (pa_cons (pv 0) (pa_cons (pe_op op_pow pe_int pe_int) pa_nil)))))
      (pss_cons (ps_set (i := 8) sc__law_back.nd rfl (Or.inl rfl) (pe_lst (pa_cons (q_call (c__law_code T) hr (by decide) rfl (passes_call (takes_of rfl rfl rfl rfl) (fun _ _ _ _ h => h)) (pa_cons (pe_dget hu (pv 1) pe_str (fun _ _ => rfl)) (pa_cons (pv 3) (pa_cons (pv 4) (pa_cons (pv 5) (pa_cons pe_int pa_nil)))))) (pa_cons (q_call (c__law_code T) hr (by decide) rfl (passes_call (takes_of rfl rfl rfl rfl) (fun _ _ _ _ h => h)) (pa_cons (pe_dget hu (pv 1) pe_str (fun _ _ => rfl)) (pa_cons (pe_op op_add pe_int (pv 7)) (pa_cons pe_int (pa_cons (pv 5) (pa_cons pe_int pa_nil)))))) pa_nil))))
      (pss_cons (ps_set (i := 8) sc__law_back.nd rfl (Or.inl rfl) (pe_op op_cat (pv 8) (pe_lst (pa_cons (q_call (c__law_code T) hr (by decide) rfl (passes_call (takes_of rfl rfl rfl rfl) (fun _ _ _ _ h => h)) (pa_cons (pe_dget hu (pv 1) pe_str (fun _ _ => rfl)) (pa_cons (pv 3) (pa_cons (pe_op op_add (pv 4) pe_int) (pa_cons (pv 5) (pa_cons pe_int pa_nil)))))) (pa_cons (q_call (c__law_code T) hr (by decide) rfl (passes_call (takes_of rfl rfl rfl rfl) (fun _ _ _ _ h => h)) (pa_cons (pe_dget hu (pv 1) pe_str (fun _ _ => rfl)) (pa_cons (pv 3) (pa_cons (pe_op op_sub (pv 4) pe_int) (pa_cons (pv 5) (pa_cons pe_int pa_nil)))))) pa_nil)))))
      (pss_cons (ps_set (i := 8) sc__law_back.nd rfl (Or.inl rfl) (pe_op op_cat (pv 8) (pe_lst (pa_cons (pe_op (opCatT K) (pe_slice (slT K) (pv 6) po_none (po_some pe_int)) (pe_tup (pa_cons (pe_op op_add (pe_ix (ixT K) (pv 6) pe_int (fun _ _ => rfl)) pe_int) pa_nil))) (pa_cons (q_call (c__law_code T) hr (by decide) rfl (passes_call (takes_of rfl rfl rfl rfl) (fun _ _ _ _ h => h)) (pa_cons (pe_dget hu (pv 1) pe_str (fun _ _ => rfl)) (pa_cons (pv 3) (pa_cons (pv 4) (pa_cons (pe_op op_add pe_int (pv 7)) (pa_cons pe_int pa_nil)))))) pa_nil)))))
      (pss_cons (ps_set (i := 8) sc__law_back.nd rfl (Or.inl rfl) (pe_op op_cat (pe_op op_cat (pv 8) (pe_lst (pa_cons (q_call (c__law_code T) hr (by decide) rfl (passes_call (takes_of rfl rfl rfl rfl) (fun _ _ _ _ h => h)) (pa_cons (pe_dget hu (pv 1) pe_str (fun _ _ => rfl)) (pa_cons (pv 3) (pa_cons (pv 4) (pa_cons pe_int (pa_cons pe_int pa_nil)))))) pa_nil))) (pe_slice (slL K) (pe_dget hu (pe_dget hu (pv 1) pe_str (fun _ _ => rfl)) (pv 3) (fun _ _ => rfl)) (po_some (pe_un un_neg pe_int)) po_none)))
      (pss_one (ps_ret (pe_ifExp (pt_cmpR op_eq (q_call (c__law_drawn T) hr (by decide) rfl (passes_call (takes_of rfl rfl rfl rfl) (fun _ _ _ _ h => h)) (pa_cons (pv 0) (pa_cons pe_int pa_nil))) pe_int (by first | exact nomark _ | rfl)) (pe_ix (ixL K) (pv 8) (q_call (c__law_drawn T) hr (by decide) rfl (passes_call (takes_of rfl rfl rfl rfl) (fun _ _ _ _ h => h)) (pa_cons (pv 0) (pa_cons (pe_callB (cLen K) (by rfl) T.n_len (by decide +kernel) (pa_cons (pv 8) pa_nil)) pa_nil))) (fun _ _ => rfl)) (pv 6)))))))))))))), ?_⟩
    wtm_at "go"
    refine g_sortD hdt kvO_keys (by omega) fun ys l H1 pm n1 m1 e1 => ?_
    have ly := pm.length_eq
    have S1 := S.mx0 m1
    have L1 := L.mx0 m1
    have rl : l ≠ r := S.new n1
    wtm_at "go"
    refine ⟨H0, r, _, rfl, S1, (by rw [List.length_map]; omega), (by rw [List.length_map]; omega), fun x H2 x0 x1 m2 S2 => ?_⟩
    rw [List.length_map] at x1
    have L2 := L1.mr m2 S1 nr
    have e2 : H2 l = some (.lst (ys.map V.int)) := m2 _ _ e1 (by simpa using rl)
    have c2 : Mx [r] H H2 := m1.of0.trans m2
    clear m1 m2 S1 L1 e1 ob hdt S L
    have ex : x = ((x.toNat : Nat) : Int) := by omega
    have hx : x.toNat < ys.length := by omega
    wtm_at "go"
    have hm : cl ys x.toNat ∈ η.ms := pm.mem_iff.mp (cl_mem hx)
    generalize cl ys x.toNat = m at hm ⊢
    obtain ⟨us, eu, du⟩ := L2.lk m hm
    have lu : us.length = (η.tkn m).length := du.len
    have hlk := W.lk m hm
    have hmb := W.mb m hm
    have hkk := W.kk
    have ob2 := L2.ob
    have hdt2 := L2.dt
    wtm_at "go"
    rw [lu]
    generalize hcn : ((η.tkn m).length : Int) + 1 = cn
    have bcn : 1 ≤ cn ∧ cn ≤ 1000 := by omega
    refine ⟨H0, r, rfl, S2, fun a H3 a0 a1 m3 S3 => ?_⟩
    have L3 := L2.mr m3 S2 nr
    have c3 := c2.trans m3
    clear m3 S2 L2 c2 ob2 hdt2 du eu e2
    have ob3 := L3.ob
    wtm_at "go"
    refine ⟨_, _, _, _, _, rfl, (by show Bd η.key; unfold Bd; omega), (by unfold Bd; omega), (by unfold Bd; omega), (by unfold Bd; omega), (by unfold Bd; omega), fun g H4 n4 m4 e4 => ?_⟩
    have S4 := S3.mx0 m4
    have L4 := L3.mx0 m4
    wtm_at "go"
    refine ⟨H0, r, _, rfl, S4, by decide, by decide, fun y H5 y0 y1 m5 S5 => ?_⟩
    have y2 : y < 10 ^ 28 := y1
    have L5 := L4.mr m5 S4 nr
    have e5 := mx_tup m5 S4.nt e4
    have c5 := (c3.trans m4.of0).trans m5
    clear m4 m5 S3 S4 L3 L4 c3 e4 y1 ob3 n4
    have ob5 := L5.ob
    wtm_at "gq"
    refine g_cutS (fun N => ∀ l' H6, Mx [] H5 H6 → Ods H6 l' 2 → N [some (.ref r), some (.ref q), some (.ref l), some (.int m), some (.int cn), some (.int a), some (.ref g), some (.int (1 + y)), some (.ref l')] H6) (fun N hN => ?_) (fun l1 H6 m6 O6 => ?_)
    · wtm_at "go"
      refine ⟨_, _, _, _, _, rfl, (by show Bd η.key; unfold Bd; omega), (by unfold Bd; omega), (by unfold Bd; omega), (by unfold Bd; omega), (by unfold Bd; omega), fun x1 Ha na ma ea => ?_⟩
      wtm_at "go"
      refine ⟨_, _, _, _, _, rfl, (by show Bd η.key; unfold Bd; omega), (by unfold Bd; omega), (by unfold Bd; omega), (by unfold Bd; omega), (by unfold Bd; omega), fun x2 Hb nb mb eb => ?_⟩
      wtm_at "go"
      rename_i l3 Hc nc mc ec
      refine hN l3 Hc ((ma.trans mb).trans mc) ⟨_, ec, rfl, fun v hv => ?_⟩
      simp only [List.mem_cons, List.not_mem_nil, or_false] at hv
      rcases hv with rfl | rfl
      · exact ⟨_, _, rfl, mc.get0 (mb.get0 ea)⟩
      · exact ⟨_, _, rfl, mc.get0 eb⟩
    have ob6 := m6.get0 ob5
    have e6 := m6.get0 e5
    wtm_at "gq"
    refine g_cutS (fun N => ∀ l' H7, Mx [] H6 H7 → Ods H7 l' 4 → N [some (.ref r), some (.ref q), some (.ref l), some (.int m), some (.int cn), some (.int a), some (.ref g), some (.int (1 + y)), some (.ref l')] H7) (fun N hN => ?_) (fun l2 H7 m7 O7 => ?_)
    · obtain ⟨vs0, v0, k0, a0'⟩ := O6
      wtm_at "go"
      refine ⟨_, _, _, _, _, rfl, (by show Bd η.key; unfold Bd; omega), (by unfold Bd; omega), (by unfold Bd; omega), (by unfold Bd; omega), (by unfold Bd; omega), fun x1 Ha na ma ea => ?_⟩
      wtm_at "go"
      refine ⟨_, _, _, _, _, rfl, (by show Bd η.key; unfold Bd; omega), (by unfold Bd; omega), (by unfold Bd; omega), (by unfold Bd; omega), (by unfold Bd; omega), fun x2 Hb nb mb eb => ?_⟩
      wtm_at "go"
      rename_i l3 Hc nc mc ec l4 Hd nd md ed
      refine hN l4 Hd (((ma.trans mb).trans mc).trans md) (ods_app ⟨vs0, v0, k0, a0'⟩ (((ma.trans mb).trans mc).trans md) v0 ed rfl fun v hv => ?_)
      simp only [List.mem_cons, List.not_mem_nil, or_false] at hv
      rcases hv with rfl | rfl
      · exact ⟨_, _, rfl, md.get0 (mc.get0 (mb.get0 ea))⟩
      · exact ⟨_, _, rfl, md.get0 (mc.get0 eb)⟩
    have ob7 := m7.get0 ob6
    have e7 := m7.get0 e6
    wtm_at "gq"
    refine g_cutS (fun N => ∀ l' H8, Mx [] H7 H8 → Ods H8 l' 6 → N [some (.ref r), some (.ref q), some (.ref l), some (.int m), some (.int cn), some (.int a), some (.ref g), some (.int (1 + y)), some (.ref l')] H8) (fun N hN => ?_) (fun l3 H8 m8 O8 => ?_)
    · obtain ⟨vs0, v0, k0, a0'⟩ := O7
      wtm_at "go"
      refine g_slT (SqT.of e7) (by show ¬ (_ ∧ _); intro z; exact absurd z.2 (by show ¬ ((3 : Nat) = 4); decide)) fun x2 Hb nb mb eb => ?_
      have e4b := mb.get0 e7
      wtm_at "go"
      rename_i x3 Hc nc mc ec
      have e4c := mc.get0 e4b
      refine g_joinT (SqT.of (mc.get0 eb)) (SqT.of ec) (by intro z; cases z) (by simp) (by show 3 + 1 ≤ 100000; decide) fun x4 Hd nd md ed => ?_
      have cad := (mb.trans mc).trans md
      have obd := cad.get0 ob7
      wtm_at "go"
      refine ⟨_, _, _, _, _, rfl, (by show Bd η.key; unfold Bd; omega), (by unfold Bd; omega), (by unfold Bd; omega), (by unfold Bd; omega), (by unfold Bd; omega), fun x1 Ha na ma ea => ?_⟩
      have cag := cad.trans ma
      have v0g := cag.get0 v0
      wtm_at "go"
      rename_i l5 Hh nh mh eh l6 Hi ni mi ei
      have cai := (cag.trans mh).trans mi
      refine hN l6 Hi cai (ods_app ⟨vs0, v0, k0, a0'⟩ cai v0 ei rfl fun v hv => ?_)
      simp only [List.mem_cons, List.not_mem_nil, or_false] at hv
      rcases hv with rfl | rfl
      · exact ⟨_, ⟨m, cn, a, sgn η.key m cn a 2 + 999983⟩, rfl, mi.get0 (mh.get0 (ma.get0 ed))⟩
      · exact ⟨_, _, rfl, mi.get0 (mh.get0 ea)⟩
    have e8 := m8.get0 e7
    have L8 := L5.mx0 ((m6.trans m7).trans m8)
    have ob8 := L8.ob
    have hdt8 := L8.dt
    wtm_at "gq"
    refine g_cutS (fun N => ∀ l' j H9, Mx [] H8 H9 → j ≤ 1000 → Ods H9 l' (7 + j) → N [some (.ref r), some (.ref q), some (.ref l), some (.int m), some (.int cn), some (.int a), some (.ref g), some (.int (1 + y)), some (.ref l')] H9) (fun N hN => ?_) (fun l4 j H9 m9 hj O9 => ?_)
    · obtain ⟨vs0, v0, k0, a0'⟩ := O8
      wtm_at "go"
      refine ⟨_, _, _, _, _, rfl, (by show Bd η.key; unfold Bd; omega), (by unfold Bd; omega), (by unfold Bd; omega), (by unfold Bd; omega), (by unfold Bd; omega), fun x1 Ha na ma ea => ?_⟩
      have La := L8.mx0 ma
      obtain ⟨us, eu, du⟩ := La.lk m hm
      have lu : us.length = (η.tkn m).length := du.len
      have oba := La.ob
      have hdta := La.dt
      have v0a := ma.get0 v0
      wtm_at "go"
      rename_i l5 Hb nb mb eb l6 Hc nc mc ec l7 Hd nd md ed
      have lcut := cutV_len (us := us) (a := some (-1)) (b := none)
      have cad := (mb.trans mc).trans md
      refine g_cat (md.get0 ec) ed (by rw [List.length_append, k0]; show 6 + 1 + _ ≤ _; omega) fun l8 He ne me ee => ?_
      have cae := (ma.trans cad).trans me
      wtm_at "go"
      rw [List.append_assoc] at ee
      have := ods_app (H := H8) (ws := [V.ref x1] ++ cutV us (some (-1)) none) ⟨vs0, v0, k0, a0'⟩ cae v0 ee rfl fun v hv => ?_
      · rw [List.length_append] at this
        refine hN l8 (cutV us (some (-1)) none).length He cae (by omega) ?_
        rw [show 7 + (cutV us (some (-1)) none).length = 6 + ([V.ref x1].length + (cutV us (some (-1)) none).length) by simp; omega]
        exact this
      · rcases List.mem_append.mp hv with z | z
        · rw [List.mem_singleton.mp z]
          exact ⟨_, _, rfl, (cad.trans me).get0 ea⟩
        · exact (du.mem (cutV_mem z)).mx (cad.trans me) noTup0
    have c9 : Mx [] H5 H9 := ((m6.trans m7).trans m8).trans m9
    have S9 := S5.mx0 c9
    have e9 := m9.get0 e8
    have c09 := c5.trans c9.of0
    obtain ⟨vs0, v0, k0, a0'⟩ := O9
    clear m6 m7 m8 m9 O6 O7 O8 L5 L8 ob5 ob6 ob7 ob8 e5 e6 e7 e8 hdt8 c5 c9 S5
    wtm_at "go"
    refine ⟨H0, r, 3, rfl, S9, by omega, by omega, fun x2 HA x20 x21 mA SA => ?_⟩
    have nl : l4 ≠ r := by
      rintro rfl
      obtain ⟨_, _, _, _, _, hh, _⟩ := S9.ex
      rw [v0] at hh
      have hl : vs0.length = 4 := by cases hh; rfl
      omega
    have vA : HA l4 = some (.lst vs0) := mA _ _ v0 (by simpa using nl)
    have gA := mx_tup mA S9.nt e9
    have cA := c09.trans mA
    wtm_at "go"
    refine g_ite (fun e => ?_) (fun e => ?_)
    · wtm_at "go"
      refine ⟨H0, r, _, rfl, SA, (by omega), (by omega), fun x3 HB x30 x31 mB SB => ?_⟩
      have ex3 : x3 = ((x3.toNat : Nat) : Int) := by omega
      have hx3 : x3.toNat < vs0.length := by omega
      obtain ⟨tt, z, ev, et⟩ := a0' (vs0[x3.toNat]) (List.getElem_mem hx3)
      refine g_ixL (v := .ref tt) (SqL.of (mB _ _ vA (by simpa using nl))) ?_ ?_
      · rw [ex3]
        exact atI_nat (by rw [List.getElem?_eq_getElem hx3, ev])
      · exact fin tt z HB (cA.trans mB) SB (mx_tup mB SA.nt (mx_tup mA S9.nt et))
    · wtm_at "go"
      exact fin g _ HA cA SA gA
def spLDeed : Sp := fun vs H Q _ => ∃ (H0 : Hp) (r q qi qt : Addr) (bi bk : Int → Addr) (η : Hs) (n : Nat), vs = [.ref r, .ref q] ∧ StAt K H0 H r ∧ LgAt H q qi qt bi bk η ∧ Hw n η ∧ n < 1000 ∧ r ∉ ftH q qi qt bi bk η.ms ∧
  ∀ t d H', Mx [r] H H' → StAt K H0 H' r → HdAt H' t d → Q (.ref t) H'
theorem c__law_deed (T : Tx K mg) : Cl P w K mg base 4 "_law_deed" (spLDeed (K := K)) [] := by
  refine T.f__law_deed.cl sc__law_deed (fun vs H Q E h => ?_) (fun cdv A outer s H vs Q E hr h => ?_)
  · obtain ⟨_, _, _, _, _, _, _, _, _, rfl, _⟩ := h
    rfl
  · obtain ⟨H0, r, q, qi, qt, bi, bk, η, n, rfl, S, L, W, hn, nr, fin⟩ := h
    have hu := hu_of hr
    have ob := L.ob
    have hdi := L.di
    have hln := W.ln
    refine ⟨_, (pss_cons (ps_set (i := 2) sc__law_deed.nd rfl (Or.inl rfl) (pe_callB (cSortD rfl) (by rfl) T.n_sorted (by decide +kernel) (pa_cons (pe_dget hu (pv 1) pe_str (fun _ _ => rfl)) pa_nil)))
      (pss_cons (ps_set (i := 3) sc__law_deed.nd rfl (Or.inl rfl) (pe_ix (ixL K) (pv 2) (q_call (c__law_drawn T) hr (by decide) rfl (passes_call (takes_of rfl rfl rfl rfl) (fun _ _ _ _ h => h)) (pa_cons (pv 0) (pa_cons (pe_callB (cLen K) (by rfl) T.n_len (by decide +kernel) (pa_cons (pv 2) pa_nil)) pa_nil))) (fun _ _ => rfl)))
      (pss_cons (ps_if (pt_cmpR op_eq (q_call (c__law_drawn T) hr (by decide) rfl (passes_call (takes_of rfl rfl rfl rfl) (fun _ _ _ _ h => h)) (pa_cons (pv 0) (pa_cons pe_int pa_nil))) pe_int (by first | exact nomark _ | rfl)) (pss_one (ps_set (i := 3) sc__law_deed.nd rfl (Or.inl rfl) (pe_ix (ixL K) (pe_lst (pa_cons (pe_op op_add (pe_ix (ixL K) (pv 2) (pe_un un_neg pe_int) (fun _ _ => rfl)) pe_int) (pa_cons (pe_op op_sub pe_int pe_int) (pa_cons (pe_op op_pow pe_int pe_int) pa_nil)))) (q_call (c__law_drawn T) hr (by decide) rfl (passes_call (takes_of rfl rfl rfl rfl) (fun _ _ _ _ h => h)) (pa_cons (pv 0) (pa_cons pe_int pa_nil))) (fun _ _ => rfl)))) pss_nil)
      (pss_cons (ps_set (i := 4) sc__law_deed.nd rfl (Or.inl rfl) (q_call (c__law_amount T) hr (by decide) rfl (passes_call (takes_of rfl rfl rfl rfl) (fun _ _ _ _ h => h)) (pa_cons (pv 0) pa_nil)))
      (pss_cons (ps_if (pt_cmpR op_eq (q_call (c__law_drawn T) hr (by decide) rfl (passes_call (takes_of rfl rfl rfl rfl) (fun _ _ _ _ h => h)) (pa_cons (pv 0) (pa_cons pe_int pa_nil))) pe_int (by first | exact nomark _ | rfl)) (pss_one (ps_set (i := 4) sc__law_deed.nd rfl (Or.inl rfl) (pe_ix (ixL K) (pe_lst (pa_cons pe_int (pa_cons (q_call (c__law_far T) hr (by decide) rfl (passes_call (takes_of rfl rfl rfl rfl) (fun _ _ _ _ h => h)) (pa_cons (pv 0) (pa_cons pe_int pa_nil))) pa_nil))) (q_call (c__law_drawn T) hr (by decide) rfl (passes_call (takes_of rfl rfl rfl rfl) (fun _ _ _ _ h => h)) (pa_cons (pv 0) (pa_cons pe_int pa_nil))) (fun _ _ => rfl)))) pss_nil)
      (pss_cons (ps_set (i := 5) sc__law_deed.nd rfl (Or.inl rfl) (q_call (c__law_drawn T) hr (by decide) rfl (passes_call (takes_of rfl rfl rfl rfl) (fun _ _ _ _ h => h)) (pa_cons (pv 0) (pa_cons pe_int pa_nil))))
      (pss_cons (ps_if (pt_cmpR op_lt (pv 5) pe_int (by first | exact nomark _ | rfl)) (pss_one (ps_ret (pe_tup (pa_cons pe_str (pa_cons (pv 4) pa_nil))))) pss_nil)
      (pss_cons (ps_if (pt_cmpR op_lt (pv 5) pe_int (by first | exact nomark _ | rfl)) (pss_one (ps_ret (pe_tup (pa_cons pe_str (pa_cons (pv 3) (pa_cons (pe_ifExp (pt_cmpR op_eq (q_call (c__law_drawn T) hr (by decide) rfl (passes_call (takes_of rfl rfl rfl rfl) (fun _ _ _ _ h => h)) (pa_cons (pv 0) (pa_cons pe_int pa_nil))) pe_int (by first | exact nomark _ | rfl)) (pv 4) (pe_callB (c_min rfl) (by rfl) T.n_min (by decide +kernel) (pa_cons (pv 4) (pa_cons (pe_callB (c_max rfl) (by rfl) T.n_max (by decide +kernel) (pa_cons pe_int (pa_cons (pe_dget hu (pv 1) pe_str (fun _ _ => rfl)) pa_nil))) pa_nil)))) pa_nil)))))) pss_nil)
      (pss_one (ps_ret (pe_tup (pa_cons pe_str (pa_cons (q_call (c__law_back T) hr (by decide) rfl (passes_call (takes_of rfl rfl rfl rfl) (fun _ _ _ _ h => h)) (pa_cons (pv 0) (pa_cons (pv 1) pa_nil))) pa_nil))))))))))))), ?_⟩
    wtm_at "go"
    refine g_sortD hdi kvO_keys (by omega) fun ys l H1 pm n1 m1 e1 => ?_
    have ly := pm.length_eq
    have S1 := S.mx0 m1
    have L1 := L.mx0 m1
    have rl : l ≠ r := S.new n1
    wtm_at "go"
    refine ⟨H0, r, _, rfl, S1, (by rw [List.length_map]; omega), (by rw [List.length_map]; omega), fun x H2 x0 x1 m2 S2 => ?_⟩
    rw [List.length_map] at x1
    have L2 := L1.mr m2 S1 nr
    have e2 : H2 l = some (.lst (ys.map V.int)) := m2 _ _ e1 (by simpa using rl)
    have c2 : Mx [r] H H2 := m1.of0.trans m2
    clear m1 m2 S1 L1 e1 ob hdi S L
    have ex : x = ((x.toNat : Nat) : Int) := by omega
    have hx : x.toNat < ys.length := by omega
    wtm_at "gi"
    refine g_cutS (fun N => ∀ (m : Int) H3, Mx [r] H2 H3 → StAt K H0 H3 r → N [some (.ref r), some (.ref q), some (.ref l), some (.int m), none, none] H3) (fun N hN => ?_) (fun m H3 m3 S3 => ?_)
    · wtm_at "go"
      refine ⟨H0, r, 9, rfl, S2, by omega, by omega, fun y H3 y0 y1 m3 S3 => ?_⟩
      have e3 : H3 l = some (.lst (ys.map V.int)) := m3 _ _ e2 (by simpa using rl)
      wtm_at "go"
      refine g_ite (fun e => ?_) (fun e => ?_)
      · wtm_at "go"
        refine g_ixL (v := .int (cl ys (ys.length - 1))) (SqL.of e3) ?_ ?_
        · unfold atI ixN
          rw [List.length_map, if_neg (by omega), if_pos (by omega)]
          show (ys.map V.int)[(-1 + (ys.length : Int)).toNat]? = _
          rw [show (-1 + (ys.length : Int)).toNat = ys.length - 1 by omega]
          exact cl_at (by omega)
        · wtm_at "go"
          rename_i l2 H4 n4 m4 e4
          have nl2 := S3.new n4
          refine ⟨H0, r, 3, rfl, S3.mx0 m4, by omega, by omega, fun z H5 z0 z1 m5 S5 => ?_⟩
          have e5 : H5 l2 = some (.lst [.int (cl ys (ys.length - 1) + 1), .int (0 - 1), .int (10 ^ (20 : Int).toNat)]) := m5 _ _ e4 (by simpa using nl2)
          have c5 : Mx [r] H2 H5 := (m3.trans m4.of0).trans m5
          have hz : z = 0 ∨ z = 1 ∨ z = 2 := by omega
          rcases hz with rfl | rfl | rfl
          · wtm_at "go"
            exact hN _ _ c5 S5
          · wtm_at "go"
            exact hN _ _ c5 S5
          · wtm_at "go"
            exact hN _ _ c5 S5
      · wtm_at "go"
        exact hN _ _ m3 S3
    have L3 := L2.mr m3 S2 nr
    have c3 := c2.trans m3
    clear m3 S2 L2 c2 e2
    wtm_at "go"
    refine ⟨H0, r, rfl, S3, fun a H4 a0 a1 m4 S4 => ?_⟩
    have L4 := L3.mr m4 S3 nr
    have c4 := c3.trans m4
    clear m4 S3 L3 c3
    wtm_at "gi"
    refine g_cutS (fun N => ∀ (a : Int) H3, Mx [r] H4 H3 → StAt K H0 H3 r → N [some (.ref r), some (.ref q), some (.ref l), some (.int m), some (.int a), none] H3) (fun N hN => ?_) (fun a H5 m5 S5 => ?_)
    · wtm_at "go"
      refine ⟨H0, r, 8, rfl, S4, by omega, by omega, fun y H5 y0 y1 m5 S5 => ?_⟩
      wtm_at "go"
      refine g_ite (fun e => ?_) (fun e => ?_)
      · wtm_at "go"
        refine ⟨H0, r, 99999, rfl, S5, fun z H6 m6 S6 => ?_⟩
        wtm_at "go"
        rename_i l2 H7 n7 m7 e7
        have nl2 := S6.new n7
        refine ⟨H0, r, 2, rfl, S6.mx0 m7, by omega, by omega, fun z2 H8 z0 z1 m8 S8 => ?_⟩
        have e8 : H8 l2 = some (.lst [.int 0, .int z]) := m8 _ _ e7 (by simpa using nl2)
        have c8 : Mx [r] H4 H8 := ((m5.trans m6).trans m7.of0).trans m8
        have hz : z2 = 0 ∨ z2 = 1 := by omega
        rcases hz with rfl | rfl
        · wtm_at "go"
          exact hN _ _ c8 S8
        · wtm_at "go"
          exact hN _ _ c8 S8
      · wtm_at "go"
        exact hN _ _ m5 S5
    have L5 := L4.mr m5 S4 nr
    have c5 := c4.trans m5
    clear m5 S4 L4 c4
    wtm_at "go"
    refine ⟨H0, r, 9, rfl, S5, by omega, by omega, fun y H6 y0 y1 m6 S6 => ?_⟩
    have L6 := L5.mr m6 S5 nr
    have c6 := c5.trans m6
    clear m6 S5 L5 c5
    wtm_at "go"
    refine g_ite (fun e => ?_) (fun e => ?_)
    · wtm_at "go"
      rename_i t H7 n7 m7 e7
      exact fin t (.buy a) H7 (c6.trans m7.of0) (S6.mx0 m7) e7
    · wtm_at "go"
      refine g_ite (fun e2 => ?_) (fun e2 => ?_)
      · wtm_at "go"
        refine ⟨H0, r, 3, rfl, S6, by omega, by omega, fun z H7 z0 z1 m7 S7 => ?_⟩
        have L7 := L6.mr m7 S6 nr
        have c7 := c6.trans m7
        have ob7 := L7.ob
        clear m7 S6 L6 c6
        wtm_at "go"
        refine g_ite (fun e3 => ?_) (fun e3 => ?_)
        · wtm_at "go"
          rename_i t H8 n8 m8 e8
          exact fin t (.iss m a) H8 (c7.trans m8.of0) (S7.mx0 m8) e8
        · wtm_at "go"
          rename_i t H8 n8 m8 e8
          exact fin t (.iss m _) H8 (c7.trans m8.of0) (S7.mx0 m8) e8
      · wtm_at "go"
        refine ⟨H0, r, q, qi, qt, bi, bk, η, n, rfl, S6, L6, W, hn, nr, fun tc z H7 m7 S7 e7 => ?_⟩
        wtm_at "go"
        rename_i t H8 n8 m8 e8
        exact fin t (.tk z) H8 ((c6.trans m7).trans m8.of0) (S7.mx0 m8) ⟨tc, e8, m8.get0 e7⟩
end
end Fk
namespace Fk
open PySem PySem.Spec PyProof.Rows L2
local macro_rules | `(tactic| wtm_at "ln") => `(tactic| first
  | omega
  | (simp only [List.length_cons, List.length_nil, List.length_map, List.length_append, List.length_replicate, List.length_take, List.length_drop, List.length_set]; omega)
  | (with_unfolding_all exact (by decide)))
local macro_rules | `(tactic| wtm_at "ar") => `(tactic| first
  | ((with_reducible show CMulW _ _); (refine' mulS ?_ ?_ <;> omega))
  | ((with_reducible show CDivW _ _); (refine' divS ?_ ?_ <;> omega))
  | ((with_reducible show CPow _ _); exact ⟨by decide, by decide, by decide⟩)
  | (show (0 : Int) < _; omega)
  | (with_unfolding_all exact (by decide)))
local macro_rules | `(tactic| wtm_at "at") => `(tactic| first
  | assumption
  | (refine' cl_atE ?e80 ?h80; (case' e80 => first | exact rfl | assumption); (case' h80 => wtm_at "ln"))
  | exact rfl)
local macro_rules | `(tactic| wtm_at "fr") => `(tactic| first
  | assumption
  | ((with_reducible refine' Mx.free0 ?m99 ?h99); (case' h99 => assumption); (case' m99 => wtm_at "mo")))
local macro_rules | `(tactic| wtm_at "hp") => `(tactic| first
  | assumption
  | ((with_reducible refine' Mx.get0 ?m1 ?h1); (case' m1 => assumption); (case' h1 => wtm_at "hp"))
  | ((with_reducible refine' Mx.get ?m2 ?n2 ?h2); (case' m2 => assumption); (case' n2 => wtm_at "nin"); (case' h2 => wtm_at "hp")))
local macro_rules | `(tactic| wtm_at "sl") => `(tactic| first
  | assumption
  | ((with_reducible refine' Mx.sqL0 ?m96 ?h96); (case' h96 => assumption); (case' m96 => wtm_at "mo"))
  | (refine' SqL.of ?h3; (case' h3 => wtm_at "hp"))
  | ((with_reducible refine' Mx.sqL0 ?m4 ?h4); (case' m4 => assumption); (case' h4 => wtm_at "sl"))
  | ((with_reducible refine' Mx.sqL ?m5 ?n5 ?h5); (case' m5 => assumption); (case' n5 => wtm_at "nin"); (case' h5 => wtm_at "sl")))
local macro_rules | `(tactic| wtm_at "st") => `(tactic| first
  | assumption
  | ((with_reducible refine' Mx.sqT0 ?m97 ?h97); (case' h97 => assumption); (case' m97 => wtm_at "mo"))
  | (refine' SqT.of ?h6; (case' h6 => wtm_at "hp"))
  | ((with_reducible refine' Mx.sqT0 ?m7 ?h7); (case' m7 => assumption); (case' h7 => wtm_at "st"))
  | ((with_reducible refine' Mx.sqT ?m8 ?n8 ?h8); (case' m8 => assumption); (case' n8 => wtm_at "nin"); (case' h8 => wtm_at "st")))
local macro_rules | `(tactic| wtm_at "mx") => `(tactic| first
  | assumption
  | exact Mx.refl
  | ((with_reducible refine' Mx.of0 ?h9); (case' h9 => assumption))
  | ((with_reducible refine' Mx.trans ?h10 ?m10); (case' m10 => first | assumption | ((with_reducible refine' Mx.of0 ?q10); (case' q10 => assumption))); (case' h10 => wtm_at "mx")))
local macro_rules | `(tactic| wtm_at "mo") => `(tactic| first
  | wtm_at "mx"
  | ((with_reducible refine' Mx.own ?m90 ?f90 ?k90); (case' k90 => assumption); (case' f90 => wtm_at "fr"); (case' m90 => wtm_at "mo"))
  | ((with_reducible refine' Mx.trans ?h91 ?m91); (case' m91 => first | assumption | ((with_reducible refine' Mx.of0 ?q91); (case' q91 => assumption))); (case' h91 => wtm_at "mo")))
local macro_rules | `(tactic| wtm_at "ne") => `(tactic| first
  | assumption
  | exact Ne.symm (by assumption)
  | ((with_reducible refine' ne_of_none ?x94 ?y94); (case' y94 => assumption); (case' x94 => wtm_at "hp"))
  | ((with_reducible refine' Ne.symm (ne_of_none ?x95 ?y95)); (case' y95 => assumption); (case' x95 => wtm_at "hp")))
local macro_rules | `(tactic| wtm_at "nin") => `(tactic| first
  | assumption
  | exact List.not_mem_nil
  | ((with_reducible refine' List.not_mem_cons_of_ne_of_not_mem ?h98 ?t98); (case' h98 => wtm_at "ne"); (case' t98 => wtm_at "nin")))
local macro_rules | `(tactic| wtm_at "g1") => `(tactic| first
  | ((with_reducible refine' g_var ?h11 ?k11); (case' h11 => exact rfl))
  | with_reducible refine' g_c ?_
  | with_reducible refine' g_op ?_
  | with_reducible refine' g_I0 ?_
  | ((with_reducible refine' g_I ?c12 ?k12); (case' c12 => wtm_at "ar"))
  | with_reducible refine' g_cons ?_
  | with_reducible refine' g_nil ?_
  | with_reducible refine' g_seq ?_
  | with_reducible refine' g_asg ?_
  | with_reducible refine' g_name ?_
  | with_reducible refine' g_ret ?_
  | with_reducible refine' g_if ?_
  | with_reducible refine' g_test ?_
  | with_reducible refine' g_tB ?_
  | with_reducible refine' g_bl ?_
  | ((with_reducible refine' g_eq ?h13 ?k13); (case' h13 => exact rfl))
  | ((with_reducible refine' g_ne ?h14 ?k14); (case' h14 => exact rfl))
  | with_reducible refine' g_CB ?_
  | with_reducible refine' g_call ?_
  | with_reducible refine' g_drop ?_
  | with_reducible refine' g_next ?_
  | with_reducible refine' g_not ?_
  | with_reducible refine' g_and ?_
  | with_reducible refine' g_or ?_
  | with_reducible refine' g_un ?_
  | with_reducible refine' g_U ?_
  | with_reducible refine' g_tup ?_
  | with_reducible refine' g_lst ?_
  | ((with_reducible refine' g_kNew ?h15 ?k15); (case' h15 => wtm_at "ln"); (case' k15 => intro _ _ _ _ _))
  | ((with_reducible refine' g_ixL ?h16 ?a16 ?k16); (case' h16 => wtm_at "sl"); (case' a16 => wtm_at "at"))
  | ((with_reducible refine' g_ixT ?h17 ?a17 ?k17); (case' h17 => wtm_at "st"); (case' a17 => wtm_at "at"))
  | with_reducible refine' g_slice ?_
  | with_reducible refine' g_part ?_
  | with_reducible refine' g_kPart ?_
  | with_reducible refine' g_noPart ?_
  | ((with_reducible refine' g_slL ?h18 ?k18); (case' h18 => wtm_at "sl"); (case' k18 => intro _ _ _ _ _))
  | ((with_reducible refine' g_cat ?h119 ?h219 ?l19 ?k19); (case' h119 => wtm_at "hp"); (case' h219 => wtm_at "hp"); (case' l19 => wtm_at "ln"); (case' k19 => intro _ _ _ _ _))
  | ((with_reducible refine' g_rep ?h120 ?h220 ?h320 ?l20 ?k20); (case' h120 => wtm_at "hp"); (case' h220 => wtm_at "ln"); (case' h320 => wtm_at "ln"); (case' l20 => wtm_at "ln"); (case' k20 => intro _ _ _ _ _))
  | ((with_reducible refine' g_append ?h21 ?l21 ?k21); (case' h21 => wtm_at "hp"); (case' l21 => wtm_at "ln"); (case' k21 => intro _ _ _))
  | ((with_reducible refine' g_kBM ?h22 ?k22); (case' h22 => wtm_at "sl"))
  | ((with_reducible refine' g_kBM0 ?h23 ?k23); (case' h23 => wtm_at "sl"))
  | ((with_reducible refine' g_kL ?h24 ?k24); (case' h24 => wtm_at "sl"))
  | ((with_reducible refine' g_kR1 ?h125 ?h225 ?k25); (case' h125 => wtm_at "ln"); (case' h225 => wtm_at "ln"))
  | ((with_reducible refine' g_kR2 ?h126 ?h226 ?h326 ?h426 ?k26); (case' h126 => wtm_at "ln"); (case' h226 => wtm_at "ln"); (case' h326 => wtm_at "ln"); (case' h426 => wtm_at "ln"))
  | ((with_reducible refine' g_lenL ?h27 ?k27); (case' h27 => wtm_at "sl"))
  | ((with_reducible refine' g_lenT ?h28 ?k28); (case' h28 => wtm_at "st"))
  | ((with_reducible refine' g_listL ?h29 ?k29); (case' h29 => wtm_at "sl"); (case' k29 => intro _ _ _ _ _))
  | ((with_reducible refine' g_tupleL ?h30 ?k30); (case' h30 => wtm_at "sl"); (case' k30 => intro _ _ _ _ _))
  | with_reducible refine' g_max ?_
  | with_reducible refine' g_min ?_
  | with_reducible refine' g_intB ?_
  | with_reducible refine' g_fld ?_
  | with_reducible refine' g_put ?_
  | with_reducible refine' g_dget ?_
  | with_reducible refine' g_isN ?_
  | with_reducible refine' g_notN ?_
  | with_reducible refine' g_ifE ?_
  | with_reducible refine' g_andV ?_
  | with_reducible refine' g_orV ?_
  | with_reducible refine' g_notV ?_
  | with_reducible refine' g_kIf ?_
  | with_reducible refine' g_chain ?_
  | with_reducible refine' g_kCh ?_
  | with_reducible refine' g_sub ?_
  | ((with_reducible refine' g_setI ?h92 ?e92 ?j92 ?k92); (case' h92 => wtm_at "hp"); (case' e92 => first | exact rfl | assumption); (case' j92 => wtm_at "ln"); (case' k92 => intro _ _ _))
  | ((with_reducible refine' g_setL ?h89 ?i89 ?k89); (case' h89 => wtm_at "hp"); (case' i89 => exact ixE rfl (by wtm_at "ln")); (case' k89 => intro _ _ _))
  | ((with_reducible refine' g_gtup ?h93 ?e93 ?k93); (case' h93 => wtm_at "st"); (case' e93 => exact rfl))
  | with_reducible refine' g_gcons ?_
  | with_reducible refine' g_gnil ?_
  | with_reducible refine' g_par ?_
  | with_reducible refine' g_kPar ?_
  | with_reducible refine' g_meth ?_
  | with_reducible refine' g_bm ?_
  | with_reducible refine' g_bm0 ?_
  | with_reducible refine' g_raise ?_
  | with_reducible refine' g_for ?_
  | with_reducible refine' g_iR1 ?_
  | with_reducible refine' g_iR2 ?_
  | with_reducible refine' g_iL ?_
  | with_reducible refine' g_lc ?_
  | with_reducible refine' g_retN ?_
  | with_reducible refine' g_no (b := false) rfl ?_
  | with_reducible refine' g_yes (b := true) rfl ?_)
local macro_rules | `(tactic| wtm_at "go") => `(tactic| repeat (wtm_at "g1"))
local macro_rules | `(tactic| wtm_at "gs") => `(tactic| repeat ((fail_if_success (with_reducible refine' g_ifE ?_)); wtm_at "g1"))
local macro_rules | `(tactic| wtm_at "gi") => `(tactic| repeat ((fail_if_success (with_reducible refine' g_if ?_)); wtm_at "g1"))
local macro_rules | `(tactic| wtm_at "gr") => `(tactic| repeat ((fail_if_success (with_reducible refine' g_ret ?_)); wtm_at "g1"))
local macro_rules | `(tactic| wtm_at "gq") => `(tactic| repeat ((fail_if_success (with_reducible refine' g_asg ?_)); wtm_at "g1"))

/-- a new instance is made -/
def kMk (x : Addr) (Q : VK) : VK := fun v H2 => v = .non ∧ Q (.ref x) H2
theorem g_kMk {x : Addr} {Q : VK} {H : Hp} (k : Q (.ref x) H) : kMk x Q .non H := ⟨rfl, k⟩
def kMake (C : Addr) (sp : Sp) (dvs : List V) (E : XK) (Q : VK) : List V → Hp → Prop := fun vs H1 => ∀ x dx, H1 x = none → H1 dx = none → dx ≠ x →
  sp (.ref x :: (vs ++ dvs)) (upd (upd H1 dx (.own x)) x (.ins C dx [])) (fun v H2 => v = .non ∧ Q (.ref x) H2) E
theorem g_make {C : Addr} {sp : Sp} {dvs : List V} {E : XK} {t : TA} {σ : L2.St} {H : Hp} {Q : VK} (k : t σ H (kMake C sp dvs E Q)) : tMake C sp dvs E t σ H Q := k
theorem g_kMake {C : Addr} {sp : Sp} {dvs vs : List V} {E : XK} {H : Hp} {Q : VK} (k : ∀ x dx H', H x = none → Mx [] H H' → H' x = some (.ins C dx []) → sp (.ref x :: (vs ++ dvs)) H' (kMk x Q) E) : kMake C sp dvs E Q vs H := fun x dx nx nd _ => by
  refine k x dx _ nx (fun a o e _ => ?_) upd_same
  rw [upd_ne (ne_of_none e nx), upd_ne (ne_of_none e nd)]
  exact e
section
variable {K : PySem.W.Frag} {H H1 H' H0 : Hp} {C r : Addr}
theorem g_cutF {F : VK → Prop} {Q : VK} (R : VK → Prop) (h : ∀ Q', R Q' → F Q') (k : R Q) : F Q := h Q k
theorem CdL.extn {ms : List Int} {a : Int → Addr} {c : Int → List Cd} (h : CdL H ms a c) (e : LamX.ExtN H H1) : CdL H1 ms a c := fun j hj => by
  obtain ⟨us, e1, d⟩ := h j hj
  exact ⟨us, e _ _ e1 (fun _ z => nomatch z), d.extn e⟩
theorem HsAt.extn {h di dt : Addr} {ai ak : Int → Addr} {η : Hs} (M : HsAt C H h di dt ai ak η) (e : LamX.ExtN H H1) : HsAt C H1 h di dt ai ak η := by
  obtain ⟨⟨dx, ob⟩, di', dt', li, lk⟩ := M
  exact ⟨⟨dx, e _ _ ob fun _ z => nomatch z⟩, e _ _ di' (fun _ z => nomatch z), e _ _ dt' (fun _ z => nomatch z), li.extn e, lk.extn e⟩
theorem LgAt.extn {q qi qt : Addr} {bi bk : Int → Addr} {η : Hs} (M : LgAt H q qi qt bi bk η) (e : LamX.ExtN H H1) : LgAt H1 q qi qt bi bk η := by
  obtain ⟨ob, di', dt', li, lk, ne⟩ := M
  exact ⟨e _ _ ob (fun _ z => nomatch z), e _ _ di' (fun _ z => nomatch z), e _ _ dt' (fun _ z => nomatch z), li.extn e, lk.extn e, ne⟩
theorem HdAt.extn {t : Addr} {d : HD} (h : HdAt H t d) (e : LamX.ExtN H H1) : HdAt H1 t d := by
  cases d with
  | buy a => exact e _ _ h fun _ z => nomatch z
  | iss m a => exact e _ _ h fun _ z => nomatch z
  | tk z => obtain ⟨c, h1, h2⟩ := h; exact ⟨c, e _ _ h1 (fun _ z => nomatch z), e _ _ h2 fun _ z => nomatch z⟩
def Obj (H : Hp) (y : Addr) : Prop := NoX H [y] ∧ NoTup H [y] ∧ H y ≠ none
theorem obj_lst {a : Addr} {xs : List V} (h : H a = some (.lst xs)) : Obj H a := ⟨fun x hx => by rw [List.mem_singleton.mp hx]; exact noX_lst h, noTup1 h, by rw [h]; simp⟩
theorem obj_dK {a : Addr} {xs : List (Key × V)} (h : H a = some (.dK xs)) : Obj H a := ⟨fun x hx => by rw [List.mem_singleton.mp hx]; exact noX_dK h, noTupD h, by rw [h]; simp⟩
theorem obj_ins {a C dx : Addr} {fs : List (Str × V)} (h : H a = some (.ins C dx fs)) : Obj H a := ⟨fun x hx => by rw [List.mem_singleton.mp hx]; exact noX_ins h, noTupI h, by rw [h]; simp⟩
theorem obj_nx {S : List Addr} (h : ∀ y ∈ S, Obj H y) : NoX H S := fun x hx => (h x hx).1 x (by simp)
theorem obj_nt {S : List Addr} (h : ∀ y ∈ S, Obj H y) : NoTup H S := fun x hx => (h x hx).2.1 x (by simp)
theorem ftH_cases {h di dt : Addr} {ai ak : Int → Addr} {ms : List Int} {y : Addr} (hy : y ∈ ftH h di dt ai ak ms) : y = h ∨ y = di ∨ y = dt ∨ (∃ m ∈ ms, y = ai m) ∨ ∃ m ∈ ms, y = ak m := by
  simp only [ftH, List.mem_cons, List.mem_append, List.mem_map] at hy
  rcases hy with rfl | rfl | rfl | ⟨m, hm, rfl⟩ | ⟨m, hm, rfl⟩
  · exact .inl rfl
  · exact .inr (.inl rfl)
  · exact .inr (.inr (.inl rfl))
  · exact .inr (.inr (.inr (.inl ⟨m, hm, rfl⟩)))
  · exact .inr (.inr (.inr (.inr ⟨m, hm, rfl⟩)))
theorem HsAt.obj {h di dt : Addr} {ai ak : Int → Addr} {η : Hs} (M : HsAt C H h di dt ai ak η) : ∀ y ∈ ftH h di dt ai ak η.ms, Obj H y := fun y hy => by
  obtain ⟨⟨dx, ob⟩, di', dt', li, lk⟩ := M
  rcases ftH_cases hy with rfl | rfl | rfl | ⟨m, hm, rfl⟩ | ⟨m, hm, rfl⟩
  · exact obj_ins ob
  · exact obj_dK di'
  · exact obj_dK dt'
  · obtain ⟨us, e, _⟩ := li m hm; exact obj_lst e
  · obtain ⟨us, e, _⟩ := lk m hm; exact obj_lst e
/-- the house and the ledger -/
structure Hh where
  h : Addr
  di : Addr
  dt : Addr
  ai : Int → Addr
  ak : Int → Addr
  q : Addr
  qi : Addr
  qt : Addr
  bi : Int → Addr
  bk : Int → Addr
def Hh.fh (x : Hh) (ms : List Int) : List Addr := ftH x.h x.di x.dt x.ai x.ak ms
def Hh.fq (x : Hh) (ms : List Int) : List Addr := ftH x.q x.qi x.qt x.bi x.bk ms
structure HdS (C : Addr) (H0 H : Hp) (r : Addr) (x : Hh) (η η' : Hs) : Prop where
  M : HsAt C H x.h x.di x.dt x.ai x.ak η
  L : LgAt H x.q x.qi x.qt x.bi x.bk η'
  I : Hin η.ms x.ai x.ak
  em : η'.ms = η.ms
  ap : ∀ y ∈ x.fh η.ms, ∀ z ∈ x.fq η.ms, y ≠ z
  f1 : ∀ y ∈ x.fh η.ms, y ≠ r ∧ H0 y = none
  f2 : ∀ z ∈ x.fq η.ms, z ≠ r ∧ H0 z = none
theorem HdS.mv {x : Hh} {η η' : Hs} {S : List Addr} (D : HdS C H0 H r x η η') (m : Mx S H H') (n : NoTup H S) (g1 : ∀ y ∈ x.fh η.ms, y ∉ S) (g2 : ∀ y ∈ x.fq η.ms, y ∉ S) : HdS C H0 H' r x η η' := by
  obtain ⟨M, L, I, em, ap, f1, f2⟩ := D
  exact ⟨M.mx m n g1, L.mx m n (by rw [em]; exact g2), I, em, ap, f1, f2⟩
theorem HdS.mr {x : Hh} {η η' : Hs} (D : HdS C H0 H r x η η') (m : Mx [r] H H') (s : StAt K H0 H r) : HdS C H0 H' r x η η' :=
  D.mv m s.nt (fun y hy => by simp; exact (D.f1 y hy).1) (fun y hy => by simp; exact (D.f2 y hy).1)
theorem HdS.mx0 {x : Hh} {η η' : Hs} (D : HdS C H0 H r x η η') (m : Mx [] H H') : HdS C H0 H' r x η η' := D.mv m noTup0 (fun _ _ => by simp) (fun _ _ => by simp)
theorem HdS.extn {x : Hh} {η η' : Hs} (D : HdS C H0 H r x η η') (e : LamX.ExtN H H1) : HdS C H0 H1 r x η η' := by
  obtain ⟨M, L, I, em, ap, f1, f2⟩ := D
  exact ⟨M.extn e, L.extn e, I, em, ap, f1, f2⟩
theorem HdS.nr {x : Hh} {η η' : Hs} (D : HdS C H0 H r x η η') : r ∉ ftH x.q x.qi x.qt x.bi x.bk η'.ms := fun h => (D.f2 r (by rw [D.em] at h; exact h)).1 rfl
/-- the ledger goes on -/
theorem HdS.due {x : Hh} {η η' : Hs} {bi' bk' : Int → Addr} (D : HdS C H0 H r x η η) (S : StAt K H0 H r) (m : Mx [x.q, x.qi, x.qt] H H') (L' : LgAt H' x.q x.qi x.qt bi' bk' η') (e : η'.ms = η.ms) (o1 : Old H η.ms x.bi bi') (o2 : Old H η.ms x.bk bk') :
    HdS C H0 H' r { x with bi := bi', bk := bk' } η η' ∧ StAt K H0 H' r ∧ NoTup H [x.q, x.qi, x.qt] ∧ NoX H [x.q, x.qi, x.qt] := by
  have hq : ∀ z ∈ [x.q, x.qi, x.qt], z ∈ x.fq η.ms := fun z hz => by
    simp only [List.mem_cons, List.not_mem_nil, or_false] at hz
    rcases hz with rfl | rfl | rfl <;> simp [Hh.fq, ftH]
  have nt : NoTup H [x.q, x.qi, x.qt] := D.L.nt
  have nx : NoX H [x.q, x.qi, x.qt] := obj_nx fun z hz => by
    simp only [List.mem_cons, List.not_mem_nil, or_false] at hz
    rcases hz with rfl | rfl | rfl
    · exact obj_dK D.L.ob
    · exact obj_dK D.L.di
    · exact obj_dK D.L.dt
  have key : ∀ z ∈ ftH x.q x.qi x.qt bi' bk' η.ms, z ∈ x.fq η.ms ∨ H z = none := fun z hz => by
    rcases ftH_cases hz with rfl | rfl | rfl | ⟨j, hj, rfl⟩ | ⟨j, hj, rfl⟩
    · exact .inl (by simp [Hh.fq, ftH])
    · exact .inl (by simp [Hh.fq, ftH])
    · exact .inl (by simp [Hh.fq, ftH])
    · rcases o1 j hj with z | z
      · exact .inl (by rw [z]; exact ftH_i hj)
      · exact .inr z
    · rcases o2 j hj with z | z
      · exact .inl (by rw [z]; exact ftH_k hj)
      · exact .inr z
  refine ⟨⟨D.M.mx m nt fun y hy z => D.ap y hy y (hq y z) rfl, L', D.I, e, fun y hy z hz => ?_, D.f1, fun z hz => ?_⟩, S.mv m (fun z hz => (D.f2 z (hq z hz)).2) (fun z => (D.f2 r (hq r z)).1 rfl), nt, nx⟩
  · rcases key z hz with q | q
    · exact D.ap y hy z q
    · rintro rfl
      exact (D.M.obj y hy).2.2 q
  · rcases key z hz with q | q
    · exact D.f2 z q
    · exact ⟨S.new q, S.mx.free0 q⟩
/-- the house goes on -/
theorem HdS.does {x : Hh} {η η' : Hs} {S' : List Addr} (D : HdS C H0 H r x η η') (S : StAt K H0 H r) (hS : ∀ y ∈ S', y = x.h ∨ (∃ m ∈ η.ms, y = x.ai m) ∨ ∃ m ∈ η.ms, y = x.ak m) (m : Mx S' H H') (M' : HsAt C H' x.h x.di x.dt x.ai x.ak η') :
    HdS C H0 H' r x η' η' ∧ StAt K H0 H' r ∧ NoTup H S' ∧ NoX H S' := by
  have mem : ∀ y ∈ S', y ∈ x.fh η.ms := fun y hy => by
    rcases hS y hy with rfl | ⟨j, hj, rfl⟩ | ⟨j, hj, rfl⟩
    · simp [Hh.fh, ftH]
    · exact ftH_i hj
    · exact ftH_k hj
  have em := D.em
  have nt : NoTup H S' := obj_nt fun y hy => D.M.obj y (mem y hy)
  have nx : NoX H S' := obj_nx fun y hy => D.M.obj y (mem y hy)
  refine ⟨⟨M', D.L.mx m nt fun z hz q => D.ap z (mem z q) z (by rw [em] at hz; exact hz) rfl, by rw [em]; exact D.I, rfl, by rw [em]; exact D.ap, by rw [em]; exact D.f1, by rw [em]; exact D.f2⟩, S.mv m (fun y hy => (D.f1 y (mem y hy)).2) (fun q => (D.f1 r (mem r q)).1 rfl), nt, nx⟩
theorem lastD_ok (zs : List Cd) : okD (lastD zs) = true ∧ (lastD zs).depth < 8 := by
  unfold lastD
  cases zs.getLast? with
  | none => exact ⟨rfl, by decide +kernel⟩
  | some z => exact ⟨rfl, by simp [cdD, PyData.depth, PyData.depthAll]⟩
theorem dueH_ok8 (η : Hs) (d : HD) : frz (dueH η d).1 = true ∧ okD (dueH η d).1 = true ∧ (dueH η d).1.depth < 8 := by
  have hc : ∀ z : Cd, frz (cdD z) = true ∧ okD (cdD z) = true ∧ (cdD z).depth < 8 := fun z => ⟨rfl, rfl, by simp [cdD, PyData.depth, PyData.depthAll]⟩
  have hi : ∀ i, frz (PyData.int i) = true ∧ okD (PyData.int i) = true ∧ (PyData.int i).depth < 8 := fun i => ⟨rfl, rfl, by simp [PyData.depth]⟩
  have hs : ∀ s, frz (PyData.str s) = true ∧ okD (PyData.str s) = true ∧ (PyData.str s).depth < 8 := fun i => ⟨rfl, rfl, by simp [PyData.depth]⟩
  cases e : resH η d with
  | some r => rw [dueH_ref e]; exact hs _
  | none =>
    rw [dueH_ok e]
    cases d with
    | buy a => exact hi _
    | iss m a => exact hc _
    | tk z => exact hi _
/-- the last code, or none -/
theorem last_two {us : List V} {zs : List Cd} (h : CdAll H us zs) : ∃ u, atI (us ++ [.non]) (-1 - (if (!decide (zs = [])) = true then 1 else 0)) = some u ∧ Dp K H u (lastD zs) := by
  have hl := h.len
  by_cases hz : zs = []
  · subst hz
    have : us = [] := List.length_eq_zero_iff.mp hl
    subst this
    exact ⟨.non, rfl, .non⟩
  · obtain ⟨t, z, e1, e2, e3⟩ := h.last hz
    have h0 : zs.length ≠ 0 := fun z => hz (List.length_eq_zero_iff.mp z)
    have el : lastD zs = cdD z := by unfold lastD; rw [e2]
    rw [el]
    refine ⟨.ref t, ?_, .tup (.of e3) (.cons (.int _) (.cons (.int _) (.cons (.int _) (.cons (.int _) .nil))))⟩
    rw [if_pos (by simp [hz])]
    unfold atI ixN at e1 ⊢
    rw [if_neg (by omega), if_pos (by omega)] at e1
    rw [List.length_append, if_neg (by omega), if_pos (by simp; omega)]
    have e1 : us[(-1 + (us.length : Int)).toNat]? = some (.ref t) := e1
    show (us ++ [V.non])[(-1 - 1 + ((us.length + 1 : Nat) : Int)).toNat]? = _
    rw [show (-1 - 1 + ((us.length + 1 : Nat) : Int)).toNat = (-1 + (us.length : Int)).toNat by omega, List.getElem?_append_left (by omega)]
    exact e1
theorem beyond {ms : List Int} (hp : ms.Pairwise (· ≤ ·)) (h : 1 ≤ ms.length) : cl ms (ms.length - 1) + 7 ∉ ms := fun hm => by
  obtain ⟨i, hi, e⟩ := List.mem_iff_getElem.mp hm
  have hj : ms.length - 1 < ms.length := by omega
  have e2 : cl ms (ms.length - 1) = ms[ms.length - 1] := by
    unfold cl
    rw [List.getD_eq_getElem?_getD, List.getElem?_eq_getElem hj]
    rfl
  by_cases q : i = ms.length - 1
  · subst q; omega
  · have := List.pairwise_iff_getElem.mp hp i (ms.length - 1) hi hj (by omega)
    omega
end
section
variable {P : Program} {w : World} {K : PySem.W.Frag} {mg : Str → Option Value} {base : Heap}
local macro_rules | `(tactic| wtm_at "g1") => `(tactic| first
  | ((with_reducible refine' g_fOwn (by assumption) ?h201 ?k201); (case' h201 => wtm_at "hp"))
  | ((with_reducible refine' g_fKey (by assumption) ?h202 ?k202); (case' h202 => wtm_at "hp"))
  | ((with_reducible refine' g_fMem (by assumption) ?h203 ?k203); (case' h203 => wtm_at "hp"))
  | ((with_reducible refine' g_fPri (by assumption) ?h204 ?k204); (case' h204 => wtm_at "hp"))
  | ((with_reducible refine' g_fAwa (by assumption) ?h205 ?k205); (case' h205 => wtm_at "hp"))
  | ((with_reducible refine' g_pAwa (by assumption) ?h206 ?k206); (case' h206 => wtm_at "hp"); (case' k206 => intro _ _ _))
  | ((with_reducible refine' g_kMeth ?h207 ?l207 ?k207); (case' h207 => wtm_at "hp"); (case' l207 => exact rfl)))

local macro_rules | `(tactic| wtm_at "g1") => `(tactic| first
  | ((with_reducible refine' g_dNum ?h311 ?k311); (case' h311 => wtm_at "hp"))
  | ((with_reducible refine' g_dKey ?h312 ?k312); (case' h312 => wtm_at "hp"))
  | ((with_reducible refine' g_dCe ?h313 ?k313); (case' h313 => wtm_at "hp"))
  | ((with_reducible refine' g_dSt ?h314 ?k314); (case' h314 => wtm_at "hp"))
  | ((with_reducible refine' g_dUp ?h315 ?k315); (case' h315 => wtm_at "hp"))
  | ((with_reducible refine' g_kDGetS ?h301 ?l301 ?k301); (case' h301 => wtm_at "hp"); (case' l301 => exact rfl))
  | (with_reducible refine' g_dput ?_)
  | (with_reducible refine' g_iK ?_)
  | ((with_reducible refine' g_disp ?k305); (case' k305 => intro _ _ _ _ _))
  | (with_reducible refine' g_pcons ?_)
  | (with_reducible refine' g_pnil ?_)
  | ((with_reducible refine' g_kDisp ?h306 ?e306 ?f306 ?l306 ?k306); (case' h306 => wtm_at "hp"); (case' e306 => exact rfl); (case' f306 => exact rfl); (case' l306 => wtm_at "ln"); (case' k306 => intro _ _ _))
  | ((with_reducible refine' g_pUp ?h302 ?k302); (case' h302 => wtm_at "hp"); (case' k302 => intro _ _ _))
  | ((with_reducible refine' g_pSt ?h303 ?k303); (case' h303 => wtm_at "hp"); (case' k303 => intro _ _ _))
  | ((with_reducible refine' g_pCe ?h304 ?k304); (case' h304 => wtm_at "hp"); (case' k304 => intro _ _ _)))

local macro_rules | `(tactic| wtm_at "g1") => `(tactic| first
  | ((with_reducible refine' g_hKey (by assumption) ?h501 ?k501); (case' h501 => wtm_at "hp"))
  | ((with_reducible refine' g_hMon (by assumption) ?h502 ?k502); (case' h502 => wtm_at "hp"))
  | ((with_reducible refine' g_hSpe (by assumption) ?h503 ?k503); (case' h503 => wtm_at "hp"))
  | ((with_reducible refine' g_hIss (by assumption) ?h504 ?k504); (case' h504 => wtm_at "hp"))
  | ((with_reducible refine' g_hTak (by assumption) ?h505 ?k505); (case' h505 => wtm_at "hp"))
  | ((with_reducible refine' g_hpMon (by assumption) ?h506 ?k506); (case' h506 => wtm_at "hp"); (case' k506 => intro _ _ _))
  | ((with_reducible refine' g_hpSpe (by assumption) ?h507 ?k507); (case' h507 => wtm_at "hp"); (case' k507 => intro _ _ _))
  | ((with_reducible refine' g_kMeth ?h508 ?l508 ?k508); (case' h508 => wtm_at "hp"); (case' l508 => exact rfl))
  | ((with_reducible refine' g_kDGetI ?h509 ?l509 ?k509); (case' h509 => wtm_at "hp"); (case' l509 => wtm_at "kv"))
  | (with_reducible refine' g_dni ?_)
  | ((with_reducible refine' g_kDNi ?h510 ?k510); (case' h510 => wtm_at "hp"))
  | (with_reducible refine' g_lenSet ?_))
local macro_rules | `(tactic| wtm_at "kv") => `(tactic| first
  | exact kvO_get (by assumption)
  | exact rfl)

def spLaw (T : Tx K mg) : Sp := fun vs H Q _ => ∃ (a : Addr) (ns : List Int), vs = [.ref a] ∧ SqL K H a (ns.map V.int) ∧ ns.length ≤ 63 ∧ H T.f_law.P = some (.tbl #[]) ∧ ∀ H', Q (.bl true) H'
/-- the lambdas' name -/
def lamQ : Str := (envOfC "law" (defScope s_law) 0 0 .none).qual ++ "<lambda>"
theorem ok_law (T : Tx K mg) (TB : LamX.TabB base mg T.f_law.c T.f_law.P) : FnOk P w K mg base (L2.CX P w) 9 T.f_law.a T.f_law.d ["_law_script"] (spLaw T) := by
  refine T.f_law.ok sc_law (fun vs H Q E h => ?_) (fun A outer s H vs Q E hr h => ?_)
  · obtain ⟨_, _, rfl, _⟩ := h
    rfl
  · obtain ⟨a, ns, rfl, hS, hl, hT, fin⟩ := h
    have hu := hu_of hr
    refine ⟨_, (pss_cons (ps_set (i := 1) sc_law.nd rfl (Or.inl rfl) (q_call (c__law_start T) hr (by decide) rfl (passes_call (takes_of rfl rfl rfl rfl) (fun _ _ _ _ h => h)) (pa_cons (pv 0) pa_nil)))
      (pss_cons (ps_set (i := 2) sc_law.nd rfl (Or.inr rfl) (q_call (c__law_numbers T) hr (by decide) rfl (passes_call (takes_of rfl rfl rfl rfl) (fun _ _ _ _ h => h)) (pa_cons (pv 1) (pa_cons (pe_op op_add pe_int (q_call (c__law_drawn T) hr (by decide) rfl (passes_call (takes_of rfl rfl rfl rfl) (fun _ _ _ _ h => h)) (pa_cons (pv 1) (pa_cons pe_int pa_nil)))) pa_nil))))
      (pss_cons (ps_set (i := 3) sc_law.nd rfl (Or.inl rfl) (q_call (c__law_drawn T) hr (by decide) rfl (passes_call (takes_of rfl rfl rfl rfl) (fun _ _ _ _ h => h)) (pa_cons (pv 1) (pa_cons pe_int pa_nil))))
      (pss_cons (ps_set (i := 4) sc_law.nd rfl (Or.inl rfl) (pe_callTy (cList K) (by rfl) T.n_list (by decide +kernel) (pa_cons (pv 2) pa_nil)))
      (pss_cons (ps_set (i := 5) sc_law.nd rfl (Or.inr rfl) (q_make (mk_House T) hr (by decide) rfl (passes_call (takes_of rfl rfl rfl rfl) (fun _ _ _ _ h => h)) (pa_cons (pv 3) (pa_cons (pv 4) pa_nil))))
      (pss_cons (ps_set (i := 6) sc_law.nd rfl (Or.inl rfl) (q_call (c__law_house T) hr (by decide) rfl (passes_call (takes_of rfl rfl rfl rfl) (fun _ _ _ _ h => h)) (pa_cons (pv 3) (pa_cons (pv 2) pa_nil))))
      (pss_cons (ps_if (pt_cmpR (opNeD K hr.units) (pv 4) (pv 2) (by first | exact nomark _ | rfl)) (pss_one (ps_ret pe_bl)) pss_nil)
      (pss_cons (ps_expr (bmK0 K PySem.F.plainAttrs_list PySem.F.slot_list_clear PySem.F.type_list_clear mt_clear (pv 4)))
      (pss_cons (ps_for (passes_of rfl) rfl (pi_range1 rfl T.n_range (pa_cons (q_call (c__law_drawn T) hr (by decide) rfl (passes_call (takes_of rfl rfl rfl rfl) (fun _ _ _ _ h => h)) (pa_cons (pv 1) (pa_cons (pe_ix (ixL K) (pe_lst (pa_cons pe_int (pa_cons pe_int (pa_cons pe_int (pa_cons pe_int pa_nil))))) (q_call (c__law_drawn T) hr (by decide) rfl (passes_call (takes_of rfl rfl rfl rfl) (fun _ _ _ _ h => h)) (pa_cons (pv 1) (pa_cons pe_int pa_nil))) (fun _ _ => rfl)) pa_nil))) pa_nil)) (pg_name (i := 7) sc_law.nd rfl (Or.inl rfl))
      (pss_cons (ps_set (i := 8) sc_law.nd rfl (Or.inr rfl) (q_call (c__law_deed T) hr (by decide) rfl (passes_call (takes_of rfl rfl rfl rfl) (fun _ _ _ _ h => h)) (pa_cons (pv 1) (pa_cons (pv 6) pa_nil))))
      (pss_cons (ps_set (i := 9) sc_law.nd rfl (Or.inl rfl) (q_call (c__law_due T) hr (by decide) rfl (passes_call (takes_of rfl rfl rfl rfl) (fun _ _ _ _ h => h)) (pa_cons (pv 6) (pa_cons (pv 8) pa_nil))))
      (pss_cons (ps_if (pt_not (pt_val (q_call (c__law_same T 8) hr (by decide) rfl (passes_call (takes_of rfl rfl rfl rfl) (fun _ _ _ _ h => h)) (pa_cons (q_kind T TB rfl hr (LamX.lamS_by (sc := defScope s_law) (by decide +kernel)) rfl (fun _ _ _ _ _ => rfl) (fun A outer s H E f c2 hr => (q_call (c__law_does T) hr (by decide) rfl (passes_call (takes_of rfl rfl rfl rfl) (fun _ _ _ _ h => h)) (pa_cons (pv 5) (pa_cons (pv 8) pa_nil)))) rfl) (pa_cons (pv 9) pa_nil))))) (pss_one (ps_ret pe_bl)) pss_nil)
      (pss_cons (ps_if (pt_not (pt_val (q_call (c__law_same T 8) hr (by decide) rfl (passes_call (takes_of rfl rfl rfl rfl) (fun _ _ _ _ h => h)) (pa_cons (pe_lst (pa_cons (q_meth0 (mt_House_funds T) hr (by decide) (pv 5) (passes_call (takes_of rfl rfl rfl rfl) (fun _ _ _ _ h => h))) (pa_cons (q_meth0 (mt_House_bought T) hr (by decide) (pv 5) (passes_call (takes_of rfl rfl rfl rfl) (fun _ _ _ _ h => h))) pa_nil))) (pa_cons (pe_lst (pa_cons (pe_dget hu (pv 6) pe_str (fun _ _ => rfl)) (pa_cons (pe_dget hu (pv 6) pe_str (fun _ _ => rfl)) pa_nil))) pa_nil))))) (pss_one (ps_ret pe_bl)) pss_nil)
      (pss_cons (ps_for (passes_of rfl) rfl (piL K (pv 2)) (pg_name (i := 10) sc_law.nd rfl (Or.inl rfl))
      (pss_one (ps_if (pt_not (pt_val (q_call (c__law_same T 8) hr (by decide) rfl (passes_call (takes_of rfl rfl rfl rfl) (fun _ _ _ _ h => h)) (pa_cons (q_meth (mt_House_last_code T) hr (by decide) (pv 5) (passes_call (takes_of rfl rfl rfl rfl) (fun _ _ _ _ h => h)) (pa_cons (pv 10) pa_nil)) (pa_cons (pe_ix (ixL K) (pe_op op_cat (pe_dget hu (pe_dget hu (pv 6) pe_str (fun _ _ => rfl)) (pv 10) (fun _ _ => rfl)) (pe_lst (pa_cons pe_non pa_nil))) (pe_op op_sub (pe_un un_neg pe_int) (pe_callTy c_int (by rfl) T.n_int (by decide +kernel) (pa_cons (pe_cmpR (opNeD K hr.units) (pe_dget hu (pe_dget hu (pv 6) pe_str (fun _ _ => rfl)) (pv 10) (fun _ _ => rfl)) (pe_lst pa_nil) (by first | exact nomark _ | rfl)) pa_nil))) (fun _ _ => rfl)) pa_nil))))) (pss_one (ps_ret pe_bl)) pss_nil)))
      (pss_one (ps_if (pt_cmpR (opNeD K hr.units) (q_kind T TB rfl hr (LamX.lamS_by (sc := defScope s_law) (by decide +kernel)) rfl (fun _ _ _ _ _ => rfl) (fun A outer s H E f c2 hr => (q_meth (mt_House_last_code T) hr (by decide) (pv 5) (passes_call (takes_of rfl rfl rfl rfl) (fun _ _ _ _ h => h)) (pa_cons (pe_op op_add (pe_ix (ixL K) (pv 2) (pe_un un_neg pe_int) (fun _ _ => rfl)) pe_int) pa_nil))) rfl) pe_str (by first | exact nomark _ | rfl)) (pss_one (ps_ret pe_bl)) pss_nil))))))))
      (pss_one (ps_ret pe_bl))))))))))), ?_⟩
    have T0 : LamX.Tabs [(T.f_law.P, lamQ)] H := fun p hp => by
      rw [List.mem_singleton.mp hp]
      exact LamX.TabS.nil hT
    wtm_at "go"
    refine ⟨a, ns, rfl, hS, hl, fun r H1 n1 m1 S1 => ?_⟩
    obtain ⟨H0, f0, nt0, S1⟩ := S1.cut
    have T1 := Tabs.mx0 T0 m1
    clear T0 m1 n1 hS hT
    wtm_at "go"
    refine ⟨H0, r, 4, rfl, S1, by omega, by omega, fun k H2 k0 k1 m2 S2 => ?_⟩
    have T2 := Tabs.mx T1 m2 S1.nx
    clear T1 m2 S1
    wtm_at "go"
    refine ⟨H0, r, 1 + k, rfl, S2, by omega, fun lm ms H3 hlen nd hp hb fm m3 S3 e3 => ?_⟩
    have T3 := Tabs.mx T2 m3 S2.nx
    have rlm : lm ≠ r := S2.new fm
    have flm : H0 lm = none := S2.mx.free0 fm
    clear T2 m3 S2 fm
    have hln : 1 ≤ ms.length ∧ ms.length ≤ 4 := by omega
    wtm_at "go"
    refine ⟨H0, r, 999982, rfl, S3, by omega, by omega, fun ky H4 ky0 ky1 m4 S4 => ?_⟩
    have T4 := Tabs.mx T3 m4 S3.nx
    have e4 : H4 lm = some (.lst (ms.map V.int)) := m4 _ _ e3 (by simpa using rlm)
    clear T3 m4 S3 e3
    wtm_at "go"
    rename_i lh H5 n5 m5 e5
    have S5 := S4.mx0 m5
    have T5 := Tabs.mx0 T4 m5
    have el5 := m5.get0 e4
    have rlh : lh ≠ r := S4.new n5
    have nlm : lh ≠ lm := (ne_of_none e4 n5).symm
    have flh : H0 lh = none := S4.mx.free0 n5
    clear S4 T4 e4 m5 n5
    refine g_make ?_
    wtm_at "go"
    refine g_kMake fun h dx H6 n6 m6 e6 => ?_
    have ef6 := m6.get0 e5
    refine ⟨h, dx, lh, ky, ms, rfl, e6, SqL.of ef6, by omega, hln, nd, hb, fun di dt ai ak H7 hf m7 M7 I7 => g_kMk ?_⟩
    have c7 : Mx [] H5 H7 := m6.own n6 m7
    have hfr : ∀ y ∈ ftH h di dt ai ak ms, H5 y = none := fun y hy => by
      rcases List.mem_cons.mp hy with rfl | hy
      · exact n6
      · exact m6.free0 (hf y hy)
    have S7 := S5.mx0 c7
    have T7 := Tabs.mx0 T5 c7
    have el7 := c7.get0 el5
    have eh7 := c7.get0 e5
    have g1 : ∀ y ∈ ftH h di dt ai ak ms, y ≠ r ∧ H0 y = none := fun y hy => ⟨S5.new (hfr y hy), S5.mx.free0 (hfr y hy)⟩
    have glm : lm ∉ ftH h di dt ai ak ms := fun z => by have := hfr lm z; rw [el5] at this; cases this
    have glh : lh ∉ ftH h di dt ai ak ms := fun z => by have := hfr lh z; rw [e5] at this; cases this
    clear hf hfr m6 m7 e6 ef6 n6 c7 S5 T5 el5 e5
    wtm_at "go"
    refine ⟨lm, ky, ms, rfl, SqL.of el7, nd, by omega, fun q qi qt bi bk H8 hf m8 L8 => ?_⟩
    have S8 := S7.mx0 m8
    have T8 := Tabs.mx0 T7 m8
    have el8 := m8.get0 el7
    have eh8 := m8.get0 eh7
    have D8 : HdS T.C_House H0 H8 r ⟨h, di, dt, ai, ak, q, qi, qt, bi, bk⟩ (newHs ky ms) (newHs ky ms) :=
      ⟨M7.mx0 m8, L8, I7, rfl, fun y hy z hz => by rintro rfl; exact (M7.obj y hy).2.2 (hf y hz), g1, fun z hz => ⟨S7.new (hf z hz), S7.mx.free0 (hf z hz)⟩⟩
    have qlm : lm ∉ ftH q qi qt bi bk ms := fun z => by have := hf lm z; rw [el7] at this; cases this
    have qlh : lh ∉ ftH q qi qt bi bk ms := fun z => by have := hf lh z; rw [eh7] at this; cases this
    have W8 : Hw 0 (newHs ky ms) := ⟨by show 0 ≤ ky ∧ ky ≤ 999981; omega, by show (0 : Int).natAbs ≤ _; simp, by show (0 : Int).natAbs ≤ _; simp, hb, fun _ _ => by simp [newHs], fun _ _ => by simp [newHs], nd, hln⟩
    clear m8 L8 hf M7 I7 S7 T7 el7 eh7 g1
    wtm_at "go"
    refine g_neI (SqL.of eh8) (SqL.of el8) ?_
    wtm_at "go"
    refine g_no (by simp) ?_
    wtm_at "go"
    refine g_clear eh8 fun H9 m9 e9 => ?_
    wtm_at "go"
    have nth : NoTup H8 [lh] := noTup1 eh8
    have D9 := D8.mv m9 nth (fun y hy => by simp; rintro rfl; exact glh hy) (fun y hy => by simp; rintro rfl; exact qlh hy)
    have S9 := S8.mv m9 (by simpa using flh) (by simpa using rlh.symm)
    have T9 := Tabs.mx T8 m9 (fun x hx => by simp at hx; subst hx; exact noX_lst eh8)
    have el9 : H9 lm = some (.lst (ms.map V.int)) := m9 _ _ el8 (by simpa using nlm.symm)
    have ql3 : lm ∉ [q, qi, qt] := fun z => qlm (by simp at z; rcases z with rfl | rfl | rfl <;> simp [ftH])
    clear D8 S8 T8 el8 eh8 m9 e9 nth qlm qlh glh rlh flh nlm
    rename_i l10 H10 n10 m10 e10
    have nl10 := S9.new n10
    refine ⟨H0, r, 4, rfl, S9.mx0 m10, by omega, by omega, fun y H11 y0 y1 m11 S11 => ?_⟩
    have e11 : H11 l10 = some (.lst [.int 61, .int 61, .int 61, .int 401]) := m11 _ _ e10 (by simpa using nl10)
    have D11 := (D9.mx0 m10).mr m11 (S9.mx0 m10)
    have T11 := Tabs.mx (Tabs.mx0 T9 m10) m11 (S9.mx0 m10).nx
    have el11 : H11 lm = some (.lst (ms.map V.int)) := m11 _ _ (m10.get0 el9) (by simpa using rlm)
    clear D9 S9 T9 el9 m10 n10 e10 m11
    refine g_cutF (F := fun Q' => rIxL K (V.ref l10) (V.int y) H11 Q') (fun Q' => ∀ od : Int, 0 < od → od ≤ 401 → Q' (.int od) H11) (fun Q' hQ => ?_) (fun od od0 od1 => ?_)
    · have hy : y = 0 ∨ y = 1 ∨ y = 2 ∨ y = 3 := by omega
      rcases hy with rfl | rfl | rfl | rfl
      · wtm_at "go"
        exact hQ _ (by omega) (by omega)
      · wtm_at "go"
        exact hQ _ (by omega) (by omega)
      · wtm_at "go"
        exact hQ _ (by omega) (by omega)
      · wtm_at "go"
        exact hQ _ (by omega) (by omega)
    clear e11 nl10
    wtm_at "go"
    refine ⟨H0, r, od, rfl, S11, od0, Int.lt_of_le_of_lt od1 (by decide), fun n H12 n0 n1 m12 S12 => ?_⟩
    have D12 := D11.mr m12 S11
    have T12 := Tabs.mx T11 m12 S11.nx
    have el12 : H12 lm = some (.lst (ms.map V.int)) := m12 _ _ el11 (by simpa using rlm)
    clear D11 S11 T11 el11 m12
    wtm_at "go"
    refine g_forR (fun i σ' H' => ∃ bi bk η x7 x8 x9 x10, σ' = [some (.ref a), some (.ref r), some (.ref lm), some (.int ky), some (.ref lh), some (.ref h), some (.ref q), x7, x8, x9, x10] ∧ η.ms = ms ∧ Hw i η ∧ StAt K H0 H' r ∧ HdS T.C_House H0 H' r ⟨h, di, dt, ai, ak, q, qi, qt, bi, bk⟩ η η ∧ LamX.Tabs [(T.f_law.P, lamQ)] H' ∧ H' lm = some (.lst (ms.map V.int)))
      ⟨bi, bk, newHs ky ms, none, none, none, none, rfl, rfl, W8, S12, D12, T12, el12⟩ (fun i σ' H4 hi hP => ?_) (fun σ' H4 hP => ?_)
    · clear S12 D12 T12 el12 W8
      obtain ⟨bi, bk, η, x7, x8, x9, x10, rfl, hms, W, S4, D4, T4, el4⟩ := hP
      have hi400 : i < 401 := by omega
      wtm_at "go"
      refine ⟨H0, r, q, qi, qt, bi, bk, η, i, rfl, S4, D4.L, W, by omega, D4.nr, fun t d H5 m5 S5 e5 => ?_⟩
      have D5 := D4.mr m5 S4
      have T5 := Tabs.mx T4 m5 S4.nx
      have el5 : H5 lm = some (.lst (ms.map V.int)) := m5 _ _ el4 (by simpa using rlm)
      clear D4 S4 T4 el4 m5
      wtm_at "go"
      refine ⟨q, qi, qt, bi, bk, η, t, d, i, rfl, D5.L, W, by omega, e5, fun v bi' bk' H6 o1 o2 m6 L6 d6 => ?_⟩
      have em := dueH_ms η d
      obtain ⟨D6, S6, nt6, nx6⟩ := D5.due S5 m6 L6 em o1 o2
      have T6 := Tabs.mx T5 m6 nx6
      have e6 := e5.mx m6 nt6
      have el6 : H6 lm = some (.lst (ms.map V.int)) := m6 _ _ el5 ql3
      have W6 := dueH_w W d
      obtain ⟨ok1, ok2, ok3⟩ := dueH_ok8 η d
      clear D5 S5 T5 el5 e5 m6 o1 o2 L6 nt6 nx6
      wtm_at "go"
      refine g_cut (fun Q' => ∀ v2 H9, StAt K H0 H9 r → HdS T.C_House H0 H9 r ⟨h, di, dt, ai, ak, q, qi, qt, bi', bk'⟩ (dueH η d).2 (dueH η d).2 → LamX.Tabs [(T.f_law.P, lamQ)] H9 → H9 lm = some (.lst (ms.map V.int)) → Dp K H9 v (dueH η d).1 → Dp K H9 v2 (dueH η d).1 → Q' v2 H9) (fun Q' hQ => ?_) (fun v2 H9 S9 D9 T9 el9 d9 d9' => ?_)
      · refine ⟨T6, fun H8 x8 T8 => ?_⟩
        have D8 := D6.extn x8
        have S8 := S6.extn nt0 x8
        have e8 := e6.extn x8
        have d8 := extn_dp x8 d6
        have el8 := x8 _ _ el6 (fun _ z => nomatch z)
        clear D6 S6 T6 e6 d6 el6 x8
        unfold TKind
        wtm_at "go"
        refine ⟨h, di, dt, ai, ak, η, t, d, i, rfl, D8.M, D8.I, W, by omega, e8, fun rf hrf => ⟨rf, rfl, rfl, fun H9 m9 => ?_⟩, fun hn v2 S' H9 hS m9 M9 d9 => ?_⟩
        · have ed := dueH_ref hrf
          rw [ed] at hQ D8 d8
          exact hQ _ _ (S8.mx0 m9) (D8.mx0 m9) (Tabs.mx0 T8 m9) (m9.get0 el8) (d8.mx m9) (.str _)
        · have ed := dueH_ok hn
          rw [ed] at hQ D8 d8 ok1
          obtain ⟨D9, S9, nt9, nx9⟩ := D8.does S8 hS m9 M9
          refine hQ _ _ S9 D9 (Tabs.mx T8 m9 nx9) (m9 _ _ el8 fun z => glm ?_) (d8.mxT m9 nt9 ok1) d9
          rcases hS _ z with q | ⟨j, hj, q⟩ | ⟨j, hj, q⟩
          · rw [q]; simp [ftH]
          · rw [q]; exact ftH_i (hms ▸ hj)
          · rw [q]; exact ftH_k (hms ▸ hj)
      · clear D6 S6 T6 e6 d6 el6
        wtm_at "go"
        refine ⟨v2, v, _, rfl, ok3, ok2, d9', d9, fun H10 m10 => ?_⟩
        refine g_bl ?_
        refine g_no rfl ?_
        have D10 := D9.mx0 m10
        have S10 := S9.mx0 m10
        have T10 := Tabs.mx0 T9 m10
        have el10 := m10.get0 el9
        clear D9 S9 T9 el9 d9 d9' m10 ok1 ok2 ok3
        rw [hms] at em
        generalize hη : (dueH η d).2 = η1 at D10 W6 em
        clear hη W hms
        obtain ⟨dx10, ob10⟩ := D10.M.ob
        wtm_at "go"
        refine ⟨h, di, dt, ai, ak, η1, rfl, D10.M, ?_⟩
        wtm_at "go"
        refine ⟨h, di, dt, ai, ak, η1, rfl, D10.M, ?_⟩
        have oq10 := D10.L.ob
        wtm_at "go"
        rename_i l1 H11 n11 m11 e11 l2 H12 n12 m12 e12
        refine ⟨.ref l1, .ref l2, .list [.int η1.money, .int η1.spent], rfl, by simp [PyData.depth, PyData.depthAll], rfl, .lst (SqL.of (m12.get0 e11)) (.cons (.int _) (.cons (.int _) .nil)), .lst (SqL.of e12) (.cons (.int _) (.cons (.int _) .nil)), fun H13 m13 => ?_⟩
        refine g_bl ?_
        refine g_no rfl ?_
        have c13 := (m11.trans m12).trans m13
        have D13 := D10.mx0 c13
        have S13 := S10.mx0 c13
        have T13 := Tabs.mx0 T10 c13
        have el13 := c13.get0 el10
        clear D10 S10 T10 el10 c13 m11 m12 m13 e11 e12 n11 n12 ob10 oq10
        wtm_at "go"
        refine g_forL (xs := ms.map V.int) (fun j σ' H' => ∃ x10, σ' = [some (.ref a), some (.ref r), some (.ref lm), some (.int ky), some (.ref lh), some (.ref h), some (.ref q), some (.int (0 + i)), some (.ref t), some v, x10] ∧ StAt K H0 H' r ∧ HdS T.C_House H0 H' r ⟨h, di, dt, ai, ak, q, qi, qt, bi', bk'⟩ η1 η1 ∧ LamX.Tabs [(T.f_law.P, lamQ)] H' ∧ H' lm = some (.lst (ms.map V.int)))
          ⟨_, rfl, S13, D13, T13, el13⟩ (fun j σ' H' _ hP => ?_) (fun j x σ' H14 hx hP => ?_) (fun σ' H14 hP => ?_)
        · obtain ⟨_, _, _, _, _, e⟩ := hP
          exact SqL.of e
        · clear S13 D13 T13 el13
          obtain ⟨x10, rfl, S14, D14, T14, el14⟩ := hP
          rw [List.getElem?_map, Option.map_eq_some_iff] at hx
          obtain ⟨m, hmm, rfl⟩ := hx
          have hm : m ∈ η1.ms := by rw [em]; exact List.mem_of_getElem? hmm
          obtain ⟨dx14, ob14⟩ := D14.M.ob
          wtm_at "go"
          refine ⟨h, di, dt, ai, ak, η1, m, rfl, D14.M, fun z => absurd hm z, fun _ v3 H15 m15 d15 => ?_⟩
          have D15 := D14.mx0 m15
          have S15 := S14.mx0 m15
          have T15 := Tabs.mx0 T14 m15
          have el15 := m15.get0 el14
          clear S14 D14 T14 el14 m15 ob14
          have oq15 := D15.L.ob
          have oi15 := D15.L.di
          obtain ⟨us, eu, du⟩ := D15.L.li m hm
          have lu : us.length ≤ 1000 := by rw [du.len]; have := W6.li m hm; omega
          wtm_at "go"
          rename_i l1 H16 n16 m16 e16 l2 H17 n17 m17 e17 l3 H18 n18 m18 e18
          have c18 := (m16.trans m17).trans m18
          refine g_neD (.lst (SqL.of (c18.get0 eu)) (du.mx c18 noTup0).dp) (.lst (SqL.of e18) .nil) (shaped_cds _) (shaped_cds []) ?_
          rw [eqv_nil]
          wtm_at "go"
          obtain ⟨u, hu1, hu2⟩ := last_two (K := K) (du.mx c18 noTup0)
          refine g_ixL (v := u) (SqL.of (m18.get0 e17)) hu1 ?_
          wtm_at "go"
          refine ⟨v3, u, _, rfl, (lastD_ok _).2, (lastD_ok _).1, d15.mx c18, hu2, fun H19 m19 => ?_⟩
          refine g_bl ?_
          refine g_no rfl ?_
          have c19 := c18.trans m19
          wtm_at "go"
          exact ⟨_, rfl, S15.mx0 c19, D15.mx0 c19, Tabs.mx0 T15 c19, c19.get0 el15⟩
        · clear S13 D13 T13 el13
          obtain ⟨x10, rfl, S14, D14, T14, el14⟩ := hP
          wtm_at "go"
          refine g_cut (fun Q' => ∀ H9, StAt K H0 H9 r → HdS T.C_House H0 H9 r ⟨h, di, dt, ai, ak, q, qi, qt, bi', bk'⟩ η1 η1 → LamX.Tabs [(T.f_law.P, lamQ)] H9 → H9 lm = some (.lst (ms.map V.int)) → Q' (.str Rf.meter.word) H9) (fun Q' hQ => ?_) (fun H15 S15 D15 T15 el15 => ?_)
          · refine ⟨T14, fun H15 x15 T15 => ?_⟩
            have D15 := D14.extn x15
            have S15 := S14.extn nt0 x15
            have el15 := x15 _ _ el14 (fun _ z => nomatch z)
            obtain ⟨dx15, ob15⟩ := D15.M.ob
            clear S14 D14 T14 el14 x15
            unfold TKind
            wtm_at "go"
            refine g_ixL (v := .int (cl ms (ms.length - 1))) (SqL.of el15) ?_ ?_
            · unfold atI ixN
              rw [List.length_map, if_neg (by omega), if_pos (by omega)]
              show (ms.map V.int)[(-1 + (ms.length : Int)).toNat]? = _
              rw [show (-1 + (ms.length : Int)).toNat = ms.length - 1 by omega]
              exact cl_at (by omega)
            · wtm_at "go"
              refine ⟨h, di, dt, ai, ak, η1, _, rfl, D15.M, fun _ => ⟨.meter, rfl, rfl, fun H16 m16 => ?_⟩, fun z => absurd z ?_⟩
              · exact hQ _ (S15.mx0 m16) (D15.mx0 m16) (Tabs.mx0 T15 m16) (m16.get0 el15)
              · rw [em]
                exact beyond hp hln.1
          · clear S14 D14 T14 el14
            wtm_at "go"
            refine g_neD (.str _) (.str _) (by decide +kernel) (by decide +kernel) ?_
            rw [show PyData.eqv (.str Rf.meter.word) (.str "NoMeter") = true by decide +kernel]
            wtm_at "go"
            refine g_no rfl ?_
            wtm_at "go"
            exact ⟨bi', bk', η1, _, _, _, _, rfl, em, W6, S15, D15, T15, el15⟩
    · obtain ⟨bi, bk, η, x7, x8, x9, x10, rfl, _⟩ := hP
      wtm_at "go"
      exact fin _
end
end Fk
namespace Fk
open PySem PySem.Spec PyProof.Rows L2
local macro_rules | `(tactic| wtm_at "ln") => `(tactic| first
  | omega
  | (simp only [List.length_cons, List.length_nil, List.length_map, List.length_append, List.length_replicate, List.length_take, List.length_drop, List.length_set]; omega)
  | (with_unfolding_all exact (by decide)))
local macro_rules | `(tactic| wtm_at "ar") => `(tactic| first
  | ((with_reducible show CMulW _ _); (refine' mulS ?_ ?_ <;> omega))
  | ((with_reducible show CDivW _ _); (refine' divS ?_ ?_ <;> omega))
  | ((with_reducible show CPow _ _); exact ⟨by decide, by decide, by decide⟩)
  | (show (0 : Int) < _; omega)
  | (with_unfolding_all exact (by decide)))
local macro_rules | `(tactic| wtm_at "at") => `(tactic| first
  | assumption
  | (refine' cl_atE ?e80 ?h80; (case' e80 => first | exact rfl | assumption); (case' h80 => wtm_at "ln"))
  | exact rfl)
local macro_rules | `(tactic| wtm_at "fr") => `(tactic| first
  | assumption
  | ((with_reducible refine' Mx.free0 ?m99 ?h99); (case' h99 => assumption); (case' m99 => wtm_at "mo")))
local macro_rules | `(tactic| wtm_at "hp") => `(tactic| first
  | assumption
  | ((with_reducible refine' Mx.get0 ?m1 ?h1); (case' m1 => assumption); (case' h1 => wtm_at "hp"))
  | ((with_reducible refine' Mx.get ?m2 ?n2 ?h2); (case' m2 => assumption); (case' n2 => wtm_at "nin"); (case' h2 => wtm_at "hp")))
local macro_rules | `(tactic| wtm_at "sl") => `(tactic| first
  | assumption
  | ((with_reducible refine' Mx.sqL0 ?m96 ?h96); (case' h96 => assumption); (case' m96 => wtm_at "mo"))
  | (refine' SqL.of ?h3; (case' h3 => wtm_at "hp"))
  | ((with_reducible refine' Mx.sqL0 ?m4 ?h4); (case' m4 => assumption); (case' h4 => wtm_at "sl"))
  | ((with_reducible refine' Mx.sqL ?m5 ?n5 ?h5); (case' m5 => assumption); (case' n5 => wtm_at "nin"); (case' h5 => wtm_at "sl")))
local macro_rules | `(tactic| wtm_at "st") => `(tactic| first
  | assumption
  | ((with_reducible refine' Mx.sqT0 ?m97 ?h97); (case' h97 => assumption); (case' m97 => wtm_at "mo"))
  | (refine' SqT.of ?h6; (case' h6 => wtm_at "hp"))
  | ((with_reducible refine' Mx.sqT0 ?m7 ?h7); (case' m7 => assumption); (case' h7 => wtm_at "st"))
  | ((with_reducible refine' Mx.sqT ?m8 ?n8 ?h8); (case' m8 => assumption); (case' n8 => wtm_at "nin"); (case' h8 => wtm_at "st")))
local macro_rules | `(tactic| wtm_at "mx") => `(tactic| first
  | assumption
  | exact Mx.refl
  | ((with_reducible refine' Mx.of0 ?h9); (case' h9 => assumption))
  | ((with_reducible refine' Mx.trans ?h10 ?m10); (case' m10 => first | assumption | ((with_reducible refine' Mx.of0 ?q10); (case' q10 => assumption))); (case' h10 => wtm_at "mx")))
local macro_rules | `(tactic| wtm_at "mo") => `(tactic| first
  | wtm_at "mx"
  | ((with_reducible refine' Mx.own ?m90 ?f90 ?k90); (case' k90 => assumption); (case' f90 => wtm_at "fr"); (case' m90 => wtm_at "mo"))
  | ((with_reducible refine' Mx.trans ?h91 ?m91); (case' m91 => first | assumption | ((with_reducible refine' Mx.of0 ?q91); (case' q91 => assumption))); (case' h91 => wtm_at "mo")))
local macro_rules | `(tactic| wtm_at "ne") => `(tactic| first
  | assumption
  | exact Ne.symm (by assumption)
  | ((with_reducible refine' ne_of_none ?x94 ?y94); (case' y94 => assumption); (case' x94 => wtm_at "hp"))
  | ((with_reducible refine' Ne.symm (ne_of_none ?x95 ?y95)); (case' y95 => assumption); (case' x95 => wtm_at "hp")))
local macro_rules | `(tactic| wtm_at "nin") => `(tactic| first
  | assumption
  | exact List.not_mem_nil
  | ((with_reducible refine' List.not_mem_cons_of_ne_of_not_mem ?h98 ?t98); (case' h98 => wtm_at "ne"); (case' t98 => wtm_at "nin")))
local macro_rules | `(tactic| wtm_at "g1") => `(tactic| first
  | ((with_reducible refine' g_var ?h11 ?k11); (case' h11 => exact rfl))
  | with_reducible refine' g_c ?_
  | with_reducible refine' g_op ?_
  | with_reducible refine' g_I0 ?_
  | ((with_reducible refine' g_I ?c12 ?k12); (case' c12 => wtm_at "ar"))
  | with_reducible refine' g_cons ?_
  | with_reducible refine' g_nil ?_
  | with_reducible refine' g_seq ?_
  | with_reducible refine' g_asg ?_
  | with_reducible refine' g_name ?_
  | with_reducible refine' g_ret ?_
  | with_reducible refine' g_if ?_
  | with_reducible refine' g_test ?_
  | with_reducible refine' g_tB ?_
  | with_reducible refine' g_bl ?_
  | ((with_reducible refine' g_eq ?h13 ?k13); (case' h13 => exact rfl))
  | ((with_reducible refine' g_ne ?h14 ?k14); (case' h14 => exact rfl))
  | with_reducible refine' g_CB ?_
  | with_reducible refine' g_call ?_
  | with_reducible refine' g_drop ?_
  | with_reducible refine' g_next ?_
  | with_reducible refine' g_not ?_
  | with_reducible refine' g_and ?_
  | with_reducible refine' g_or ?_
  | with_reducible refine' g_un ?_
  | with_reducible refine' g_U ?_
  | with_reducible refine' g_tup ?_
  | with_reducible refine' g_lst ?_
  | ((with_reducible refine' g_kNew ?h15 ?k15); (case' h15 => wtm_at "ln"); (case' k15 => intro _ _ _ _ _))
  | ((with_reducible refine' g_ixL ?h16 ?a16 ?k16); (case' h16 => wtm_at "sl"); (case' a16 => wtm_at "at"))
  | ((with_reducible refine' g_ixT ?h17 ?a17 ?k17); (case' h17 => wtm_at "st"); (case' a17 => wtm_at "at"))
  | with_reducible refine' g_slice ?_
  | with_reducible refine' g_part ?_
  | with_reducible refine' g_kPart ?_
  | with_reducible refine' g_noPart ?_
  | ((with_reducible refine' g_slL ?h18 ?k18); (case' h18 => wtm_at "sl"); (case' k18 => intro _ _ _ _ _))
  | ((with_reducible refine' g_cat ?h119 ?h219 ?l19 ?k19); (case' h119 => wtm_at "hp"); (case' h219 => wtm_at "hp"); (case' l19 => wtm_at "ln"); (case' k19 => intro _ _ _ _ _))
  | ((with_reducible refine' g_rep ?h120 ?h220 ?h320 ?l20 ?k20); (case' h120 => wtm_at "hp"); (case' h220 => wtm_at "ln"); (case' h320 => wtm_at "ln"); (case' l20 => wtm_at "ln"); (case' k20 => intro _ _ _ _ _))
  | ((with_reducible refine' g_append ?h21 ?l21 ?k21); (case' h21 => wtm_at "hp"); (case' l21 => wtm_at "ln"); (case' k21 => intro _ _ _))
  | ((with_reducible refine' g_kBM ?h22 ?k22); (case' h22 => wtm_at "sl"))
  | ((with_reducible refine' g_kBM0 ?h23 ?k23); (case' h23 => wtm_at "sl"))
  | ((with_reducible refine' g_kL ?h24 ?k24); (case' h24 => wtm_at "sl"))
  | ((with_reducible refine' g_kR1 ?h125 ?h225 ?k25); (case' h125 => wtm_at "ln"); (case' h225 => wtm_at "ln"))
  | ((with_reducible refine' g_kR2 ?h126 ?h226 ?h326 ?h426 ?k26); (case' h126 => wtm_at "ln"); (case' h226 => wtm_at "ln"); (case' h326 => wtm_at "ln"); (case' h426 => wtm_at "ln"))
  | ((with_reducible refine' g_lenL ?h27 ?k27); (case' h27 => wtm_at "sl"))
  | ((with_reducible refine' g_lenT ?h28 ?k28); (case' h28 => wtm_at "st"))
  | ((with_reducible refine' g_listL ?h29 ?k29); (case' h29 => wtm_at "sl"); (case' k29 => intro _ _ _ _ _))
  | ((with_reducible refine' g_tupleL ?h30 ?k30); (case' h30 => wtm_at "sl"); (case' k30 => intro _ _ _ _ _))
  | with_reducible refine' g_max ?_
  | with_reducible refine' g_min ?_
  | with_reducible refine' g_intB ?_
  | with_reducible refine' g_fld ?_
  | with_reducible refine' g_put ?_
  | with_reducible refine' g_dget ?_
  | with_reducible refine' g_isN ?_
  | with_reducible refine' g_notN ?_
  | with_reducible refine' g_ifE ?_
  | with_reducible refine' g_andV ?_
  | with_reducible refine' g_orV ?_
  | with_reducible refine' g_notV ?_
  | with_reducible refine' g_kIf ?_
  | with_reducible refine' g_chain ?_
  | with_reducible refine' g_kCh ?_
  | with_reducible refine' g_sub ?_
  | ((with_reducible refine' g_setI ?h92 ?e92 ?j92 ?k92); (case' h92 => wtm_at "hp"); (case' e92 => first | exact rfl | assumption); (case' j92 => wtm_at "ln"); (case' k92 => intro _ _ _))
  | ((with_reducible refine' g_setL ?h89 ?i89 ?k89); (case' h89 => wtm_at "hp"); (case' i89 => exact ixE rfl (by wtm_at "ln")); (case' k89 => intro _ _ _))
  | ((with_reducible refine' g_gtup ?h93 ?e93 ?k93); (case' h93 => wtm_at "st"); (case' e93 => exact rfl))
  | with_reducible refine' g_gcons ?_
  | with_reducible refine' g_gnil ?_
  | with_reducible refine' g_par ?_
  | with_reducible refine' g_kPar ?_
  | with_reducible refine' g_meth ?_
  | with_reducible refine' g_bm ?_
  | with_reducible refine' g_bm0 ?_
  | with_reducible refine' g_raise ?_
  | with_reducible refine' g_for ?_
  | with_reducible refine' g_iR1 ?_
  | with_reducible refine' g_iR2 ?_
  | with_reducible refine' g_iL ?_
  | with_reducible refine' g_lc ?_
  | with_reducible refine' g_retN ?_
  | with_reducible refine' g_no (b := false) rfl ?_
  | with_reducible refine' g_yes (b := true) rfl ?_)
local macro_rules | `(tactic| wtm_at "go") => `(tactic| repeat (wtm_at "g1"))
local macro_rules | `(tactic| wtm_at "gs") => `(tactic| repeat ((fail_if_success (with_reducible refine' g_ifE ?_)); wtm_at "g1"))
local macro_rules | `(tactic| wtm_at "gi") => `(tactic| repeat ((fail_if_success (with_reducible refine' g_if ?_)); wtm_at "g1"))
local macro_rules | `(tactic| wtm_at "gr") => `(tactic| repeat ((fail_if_success (with_reducible refine' g_ret ?_)); wtm_at "g1"))
local macro_rules | `(tactic| wtm_at "gq") => `(tactic| repeat ((fail_if_success (with_reducible refine' g_asg ?_)); wtm_at "g1"))
theorem law_at {l : PySem.W.OpenLaw} {w : World} {K : PySem.W.Frag} {mg : Str → Option Value} {h : Heap} {fa : Addr} (T : Tx K mg) (hfa : mg "law" = some (.ref fa)) (hT : h.get? T.f_law.P = some { cls := .none, data := .fields #[] }) (nP : K.lookup T.f_law.P = none) (hC : PySem.W.CodeHd h T.f_law.c T.f_law.P)
    (hB : ∀ (s : Shared) (us : List Value), us.length = (["_law_script"] : List Str).length → BindsTo s T.f_law.d ⟨us, []⟩ ((["_law_script"] : List Str).zip us)) : LamX.LawAtS l w K (L2.CX l.prog w) 9 63 "_law_script" mg fa h := by
  have e : T.f_law.a = fa := by
    have := T.f_law.g.symm.trans hfa
    cases this
    rfl
  subst e
  refine ⟨T.f_law.d, [(T.f_law.c, T.f_law.P)], spLaw T, fun p hp => ?_, fun p hp => ?_, fun p hp => ?_, fun s u => hB s [u] rfl, fun H a ns hl _ hT2 hS => ?_, fun base _ _ TB => ok_law T (TB _ (List.mem_singleton.mpr rfl))⟩
  · rw [List.mem_singleton.mp hp]; exact hT
  · rw [List.mem_singleton.mp hp]; exact nP
  · rw [List.mem_singleton.mp hp]; exact hC
  · exact ⟨a, ns, rfl, hS, hl, hT2 _ (List.mem_singleton.mpr rfl), fun _ => rfl⟩
end Fk
open PySem PySem.W PyProof.Rows
set_option maxRecDepth 100000 in
set_option maxHeartbeats 0 in
theorem hd_test : PySem.Challenge.rw_frankmeter_k09_houses.Holds := by
  w_on; o_law; k_head; (case hw => w_witness2)
  k_fill
  refine LamX.walk_ofTs (l := PySem.Challenge.rw_frankmeter_k09_houses) (n := 63) (k := 9) (x := "_law_script") (CX := fun w => L2.CX (PySem.Challenge.rw_frankmeter_k09_houses).prog w) rfl (by decide) rfl ⟨rfl, by decide, by decide⟩ (fun w h Y => PySem.W.km_in_of Y) ?F ?C
  case C =>
    intro w H s e s2 z
    obtain ⟨_, _, _, _, _, _, _, _, _, _, _, _, z⟩ := z
    exact z
  case F =>
    intro w mg fa h Y KX G hmg
    have hTs := PySem.W.km_tabs_of Y
    refine' Fk.with_co KX G "WHEEL" 999983 ?az1 fun g_WHEEL => ?_
    (case az1 => k_is)
    refine' Fk.with_co KX G "TOP" 1 ?az2 fun g_TOP => ?_
    (case az2 => k_is)
    refine' Fk.with_co KX G "BACK" 2 ?az3 fun g_BACK => ?_
    (case az3 => k_is)
    refine' Fk.with_co KX G "MOST_AMOUNT" 99999 ?az4 fun g_MOST_AMOUNT => ?_
    (case az4 => k_is)
    refine' Fk.with_co KX G "MOST_NUMBER" 9999 ?az5 fun g_MOST_NUMBER => ?_
    (case az5 => k_is)
    refine' Fk.with_co KX G "MOST_KEY" 999981 ?az6 fun g_MOST_KEY => ?_
    (case az6 => k_is)
    refine' Fk.with_co KX G "MOST_METERS" 4 ?az7 fun g_MOST_METERS => ?_
    (case az7 => k_is)
    refine' Fk.with_bl KX G "ValueError" ?az8 fun n_ValueError => ?_
    (case az8 => k_is)
    refine' Fk.with_bl KX G "bool" ?az9 fun n_bool => ?_
    (case az9 => k_is)
    refine' Fk.with_bl KX G "dict" ?az10 fun n_dict => ?_
    (case az10 => k_is)
    refine' Fk.with_bl KX G "int" ?az11 fun n_int => ?_
    (case az11 => k_is)
    refine' Fk.with_bl KX G "isinstance" ?az12 fun n_isinstance => ?_
    (case az12 => k_is)
    refine' Fk.with_bl KX G "len" ?az13 fun n_len => ?_
    (case az13 => k_is)
    refine' Fk.with_bl KX G "list" ?az14 fun n_list => ?_
    (case az14 => k_is)
    refine' Fk.with_bl KX G "max" ?az15 fun n_max => ?_
    (case az15 => k_is)
    refine' Fk.with_bl KX G "min" ?az16 fun n_min => ?_
    (case az16 => k_is)
    refine' Fk.with_bl KX G "range" ?az17 fun n_range => ?_
    (case az17 => k_is)
    refine' Fk.with_bl KX G "set" ?az18 fun n_set => ?_
    (case az18 => k_is)
    refine' Fk.with_bl KX G "sorted" ?az19 fun n_sorted => ?_
    (case az19 => k_is)
    refine' Fk.with_bl KX G "str" ?az20 fun n_str => ?_
    (case az20 => k_is)
    refine' Fk.with_bl KX G "tuple" ?az21 fun n_tuple => ?_
    (case az21 => k_is)
    refine' Fk.with_ex KX G "FrankError" ?az22 ?ez22 ?kz22 ?bz22 ?tz22 fun x_FrankError => ?_
    (case az22 => k_is); (case ez22 => k_exc); (case kz22 => k_is); (case bz22 => k_is); (case tz22 => k_is)
    refine' Fk.with_ex KX G "NoBank" ?az23 ?ez23 ?kz23 ?bz23 ?tz23 fun x_NoBank => ?_
    (case az23 => k_is); (case ez23 => k_exc); (case kz23 => k_is); (case bz23 => k_is); (case tz23 => k_is)
    refine' Fk.with_ex KX G "BadNumber" ?az24 ?ez24 ?kz24 ?bz24 ?tz24 fun x_BadNumber => ?_
    (case az24 => k_is); (case ez24 => k_exc); (case kz24 => k_is); (case bz24 => k_is); (case tz24 => k_is)
    refine' Fk.with_ex KX G "BadAmount" ?az25 ?ez25 ?kz25 ?bz25 ?tz25 fun x_BadAmount => ?_
    (case az25 => k_is); (case ez25 => k_exc); (case kz25 => k_is); (case bz25 => k_is); (case tz25 => k_is)
    refine' Fk.with_ex KX G "BadCode" ?az26 ?ez26 ?kz26 ?bz26 ?tz26 fun x_BadCode => ?_
    (case az26 => k_is); (case ez26 => k_exc); (case kz26 => k_is); (case bz26 => k_is); (case tz26 => k_is)
    refine' Fk.with_ex KX G "Short" ?az27 ?ez27 ?kz27 ?bz27 ?tz27 fun x_Short => ?_
    (case az27 => k_is); (case ez27 => k_exc); (case kz27 => k_is); (case bz27 => k_is); (case tz27 => k_is)
    refine' Fk.with_ex KX G "Down" ?az28 ?ez28 ?kz28 ?bz28 ?tz28 fun x_Down => ?_
    (case az28 => k_is); (case ez28 => k_exc); (case kz28 => k_is); (case bz28 => k_is); (case tz28 => k_is)
    refine' Fk.with_ex KX G "Up" ?az29 ?ez29 ?kz29 ?bz29 ?tz29 fun x_Up => ?_
    (case az29 => k_is); (case ez29 => k_exc); (case kz29 => k_is); (case bz29 => k_is); (case tz29 => k_is)
    refine' Fk.with_ex KX G "NoMeter" ?az30 ?ez30 ?kz30 ?bz30 ?tz30 fun x_NoMeter => ?_
    (case az30 => k_is); (case ez30 => k_exc); (case kz30 => k_is); (case bz30 => k_is); (case tz30 => k_is)
    refine' Fk.with_ei x_NoBank x_FrankError ?h1z31 ?h2z31 ?h3z31 ?h4z31 ?h5z31 ?h6z31 ?h7z31 ?h8z31 ?h9z31 ?h10z31 fun i_NoBank => ?_
    (case h1z31 => k_is); (case h2z31 => k_is); (case h3z31 => k_is); (case h4z31 => k_is); (case h5z31 => k_is); (case h6z31 => k_is); (case h7z31 => k_is); (case h8z31 => k_is); (case h9z31 => k_is); (case h10z31 => kernel_rfl)
    refine' Fk.with_ei x_BadNumber x_FrankError ?h1z32 ?h2z32 ?h3z32 ?h4z32 ?h5z32 ?h6z32 ?h7z32 ?h8z32 ?h9z32 ?h10z32 fun i_BadNumber => ?_
    (case h1z32 => k_is); (case h2z32 => k_is); (case h3z32 => k_is); (case h4z32 => k_is); (case h5z32 => k_is); (case h6z32 => k_is); (case h7z32 => k_is); (case h8z32 => k_is); (case h9z32 => k_is); (case h10z32 => kernel_rfl)
    refine' Fk.with_ei x_BadAmount x_FrankError ?h1z33 ?h2z33 ?h3z33 ?h4z33 ?h5z33 ?h6z33 ?h7z33 ?h8z33 ?h9z33 ?h10z33 fun i_BadAmount => ?_
    (case h1z33 => k_is); (case h2z33 => k_is); (case h3z33 => k_is); (case h4z33 => k_is); (case h5z33 => k_is); (case h6z33 => k_is); (case h7z33 => k_is); (case h8z33 => k_is); (case h9z33 => k_is); (case h10z33 => kernel_rfl)
    refine' Fk.with_ei x_BadCode x_FrankError ?h1z34 ?h2z34 ?h3z34 ?h4z34 ?h5z34 ?h6z34 ?h7z34 ?h8z34 ?h9z34 ?h10z34 fun i_BadCode => ?_
    (case h1z34 => k_is); (case h2z34 => k_is); (case h3z34 => k_is); (case h4z34 => k_is); (case h5z34 => k_is); (case h6z34 => k_is); (case h7z34 => k_is); (case h8z34 => k_is); (case h9z34 => k_is); (case h10z34 => kernel_rfl)
    refine' Fk.with_ei x_Short x_FrankError ?h1z35 ?h2z35 ?h3z35 ?h4z35 ?h5z35 ?h6z35 ?h7z35 ?h8z35 ?h9z35 ?h10z35 fun i_Short => ?_
    (case h1z35 => k_is); (case h2z35 => k_is); (case h3z35 => k_is); (case h4z35 => k_is); (case h5z35 => k_is); (case h6z35 => k_is); (case h7z35 => k_is); (case h8z35 => k_is); (case h9z35 => k_is); (case h10z35 => kernel_rfl)
    refine' Fk.with_ei x_Down x_FrankError ?h1z36 ?h2z36 ?h3z36 ?h4z36 ?h5z36 ?h6z36 ?h7z36 ?h8z36 ?h9z36 ?h10z36 fun i_Down => ?_
    (case h1z36 => k_is); (case h2z36 => k_is); (case h3z36 => k_is); (case h4z36 => k_is); (case h5z36 => k_is); (case h6z36 => k_is); (case h7z36 => k_is); (case h8z36 => k_is); (case h9z36 => k_is); (case h10z36 => kernel_rfl)
    refine' Fk.with_ei x_Up x_FrankError ?h1z37 ?h2z37 ?h3z37 ?h4z37 ?h5z37 ?h6z37 ?h7z37 ?h8z37 ?h9z37 ?h10z37 fun i_Up => ?_
    (case h1z37 => k_is); (case h2z37 => k_is); (case h3z37 => k_is); (case h4z37 => k_is); (case h5z37 => k_is); (case h6z37 => k_is); (case h7z37 => k_is); (case h8z37 => k_is); (case h9z37 => k_is); (case h10z37 => kernel_rfl)
    refine' Fk.with_ei x_NoMeter x_FrankError ?h1z38 ?h2z38 ?h3z38 ?h4z38 ?h5z38 ?h6z38 ?h7z38 ?h8z38 ?h9z38 ?h10z38 fun i_NoMeter => ?_
    (case h1z38 => k_is); (case h2z38 => k_is); (case h3z38 => k_is); (case h4z38 => k_is); (case h5z38 => k_is); (case h6z38 => k_is); (case h7z38 => k_is); (case h8z38 => k_is); (case h9z38 => k_is); (case h10z38 => kernel_rfl)
    refine' Fk.with_cl KX G "House" ?az39 ?h1z39 ?h2z39 ?h3z39 ?h4z39 ?h5z39 ?h6z39 fun cls_House g_House mk_House_ kc_House => ?_
    (case az39 => k_is); (case h1z39 => k_is); (case h2z39 => k_is); (case h3z39 => k_is); (case h4z39 => k_is); (case h5z39 => k_is); (case h6z39 => k_is)
    refine' Fk.with_na cls_House "key" ?az40 fun na_House_key => ?_
    (case az40 => k_is)
    refine' Fk.with_na cls_House "money" ?az41 fun na_House_money => ?_
    (case az41 => k_is)
    refine' Fk.with_na cls_House "spent" ?az42 fun na_House_spent => ?_
    (case az42 => k_is)
    refine' Fk.with_na cls_House "issues" ?az43 fun na_House_issues => ?_
    (case az43 => k_is)
    refine' Fk.with_na cls_House "taken" ?az44 fun na_House_taken => ?_
    (case az44 => k_is)
    refine' Fk.with_fn KX G "sign_of" Fk.s_sign_of ["key", "meter", "count", "amount", "kind"] ?az45 ?lz45 ?cz45 ?kz45 ?bz45 fun f_sign_of => ?_
    (case az45 => k_is); (case lz45 => k_is); (case cz45 => k_is); (case kz45 => k_is); (case bz45 => exact fun _ _ _ _ _ _ us hl => match us, hl with | [_, _, _, _, _], _ => rfl)
    refine' Fk.with_fn KX G "code_of" Fk.s_code_of ["key", "meter", "count", "amount", "kind"] ?az46 ?lz46 ?cz46 ?kz46 ?bz46 fun f_code_of => ?_
    (case az46 => k_is); (case lz46 => k_is); (case cz46 => k_is); (case kz46 => k_is); (case bz46 => exact fun _ _ _ _ _ _ us hl => match us, hl with | [_, _, _, _, _], _ => rfl)
    refine' Fk.with_fn KX G "is_amount" Fk.s_is_amount ["amount"] ?az47 ?lz47 ?cz47 ?kz47 ?bz47 fun f_is_amount => ?_
    (case az47 => k_is); (case lz47 => k_is); (case cz47 => k_is); (case kz47 => k_is); (case bz47 => exact fun _ _ _ _ _ _ us hl => match us, hl with | [_], _ => rfl)
    refine' Fk.with_fn KX G "need_amount" Fk.s_need_amount ["amount"] ?az48 ?lz48 ?cz48 ?kz48 ?bz48 fun f_need_amount => ?_
    (case az48 => k_is); (case lz48 => k_is); (case cz48 => k_is); (case kz48 => k_is); (case bz48 => exact fun _ _ _ _ _ _ us hl => match us, hl with | [_], _ => rfl)
    refine' Fk.with_fn KX G "is_good" Fk.s_is_good ["key", "code", "meter", "count", "kind"] ?az49 ?lz49 ?cz49 ?kz49 ?bz49 fun f_is_good => ?_
    (case az49 => k_is); (case lz49 => k_is); (case cz49 => k_is); (case kz49 => k_is); (case bz49 => exact fun _ _ _ _ _ _ us hl => match us, hl with | [_, _, _, _, _], _ => rfl)
    refine' Fk.with_fn KX G "need_key" Fk.s_need_key ["key"] ?az50 ?lz50 ?cz50 ?kz50 ?bz50 fun f_need_key => ?_
    (case az50 => k_is); (case lz50 => k_is); (case cz50 => k_is); (case kz50 => k_is); (case bz50 => exact fun _ _ _ _ _ _ us hl => match us, hl with | [_], _ => rfl)
    refine' Fk.with_fn KX G "need_number" Fk.s_need_number ["number"] ?az51 ?lz51 ?cz51 ?kz51 ?bz51 fun f_need_number => ?_
    (case az51 => k_is); (case lz51 => k_is); (case cz51 => k_is); (case kz51 => k_is); (case bz51 => exact fun _ _ _ _ _ _ us hl => match us, hl with | [_], _ => rfl)
    refine' Fk.with_me cls_House "__init__" "House.__init__" Fk.s_House___init__ ["self", "key", "meters"] ?az52 ?iz52 ?lz52 ?cz52 ?kz52 ?bz52 fun m_House___init__ => ?_
    (case az52 => k_is); (case iz52 => k_is); (case lz52 => k_is); (case cz52 => k_is); (case kz52 => k_is); (case bz52 => exact fun _ _ _ _ _ _ us hl => match us, hl with | [_, _, _], _ => rfl)
    refine' Fk.with_me cls_House "funds" "House.funds" Fk.s_House_funds ["self"] ?az53 ?iz53 ?lz53 ?cz53 ?kz53 ?bz53 fun m_House_funds => ?_
    (case az53 => k_is); (case iz53 => k_is); (case lz53 => k_is); (case cz53 => k_is); (case kz53 => k_is); (case bz53 => exact fun _ _ _ _ _ _ us hl => match us, hl with | [_], _ => rfl)
    refine' Fk.with_me cls_House "bought" "House.bought" Fk.s_House_bought ["self"] ?az54 ?iz54 ?lz54 ?cz54 ?kz54 ?bz54 fun m_House_bought => ?_
    (case az54 => k_is); (case iz54 => k_is); (case lz54 => k_is); (case cz54 => k_is); (case kz54 => k_is); (case bz54 => exact fun _ _ _ _ _ _ us hl => match us, hl with | [_], _ => rfl)
    refine' Fk.with_me cls_House "buy" "House.buy" Fk.s_House_buy ["self", "amount"] ?az55 ?iz55 ?lz55 ?cz55 ?kz55 ?bz55 fun m_House_buy => ?_
    (case az55 => k_is); (case iz55 => k_is); (case lz55 => k_is); (case cz55 => k_is); (case kz55 => k_is); (case bz55 => exact fun _ _ _ _ _ _ us hl => match us, hl with | [_, _], _ => rfl)
    refine' Fk.with_me cls_House "need_meter" "House.need_meter" Fk.s_House_need_meter ["self", "meter"] ?az56 ?iz56 ?lz56 ?cz56 ?kz56 ?bz56 fun m_House_need_meter => ?_
    (case az56 => k_is); (case iz56 => k_is); (case lz56 => k_is); (case cz56 => k_is); (case kz56 => k_is); (case bz56 => exact fun _ _ _ _ _ _ us hl => match us, hl with | [_, _], _ => rfl)
    refine' Fk.with_me cls_House "issue" "House.issue" Fk.s_House_issue ["self", "meter", "amount"] ?az57 ?iz57 ?lz57 ?cz57 ?kz57 ?bz57 fun m_House_issue => ?_
    (case az57 => k_is); (case iz57 => k_is); (case lz57 => k_is); (case cz57 => k_is); (case kz57 => k_is); (case bz57 => exact fun _ _ _ _ _ _ us hl => match us, hl with | [_, _, _], _ => rfl)
    refine' Fk.with_me cls_House "last_code" "House.last_code" Fk.s_House_last_code ["self", "meter"] ?az58 ?iz58 ?lz58 ?cz58 ?kz58 ?bz58 fun m_House_last_code => ?_
    (case az58 => k_is); (case iz58 => k_is); (case lz58 => k_is); (case cz58 => k_is); (case kz58 => k_is); (case bz58 => exact fun _ _ _ _ _ _ us hl => match us, hl with | [_, _], _ => rfl)
    refine' Fk.with_me cls_House "take_back" "House.take_back" Fk.s_House_take_back ["self", "code"] ?az59 ?iz59 ?lz59 ?cz59 ?kz59 ?bz59 fun m_House_take_back => ?_
    (case az59 => k_is); (case iz59 => k_is); (case lz59 => k_is); (case cz59 => k_is); (case kz59 => k_is); (case bz59 => exact fun _ _ _ _ _ _ us hl => match us, hl with | [_, _], _ => rfl)
    refine' Fk.with_fn KX G "_law_start" Fk.s__law_start ["_law_script"] ?az60 ?lz60 ?cz60 ?kz60 ?bz60 fun f__law_start => ?_
    (case az60 => k_is); (case lz60 => k_is); (case cz60 => k_is); (case kz60 => k_is); (case bz60 => exact fun _ _ _ _ _ _ us hl => match us, hl with | [_], _ => rfl)
    refine' Fk.with_fn KX G "_law_drawn" Fk.s__law_drawn ["_law_state", "_law_many"] ?az61 ?lz61 ?cz61 ?kz61 ?bz61 fun f__law_drawn => ?_
    (case az61 => k_is); (case lz61 => k_is); (case cz61 => k_is); (case kz61 => k_is); (case bz61 => exact fun _ _ _ _ _ _ us hl => match us, hl with | [_, _], _ => rfl)
    refine' Fk.with_fn KX G "_law_same" Fk.s__law_same ["_law_found", "_law_due_here"] ?az62 ?lz62 ?cz62 ?kz62 ?bz62 fun f__law_same => ?_
    (case az62 => k_is); (case lz62 => k_is); (case cz62 => k_is); (case kz62 => k_is); (case bz62 => exact fun _ _ _ _ _ _ us hl => match us, hl with | [_, _], _ => rfl)
    refine' Fk.with_fn KX G "_law_kind" Fk.s__law_kind ["_law_work"] ?az63 ?lz63 ?cz63 ?kz63 ?bz63 fun f__law_kind => ?_
    (case az63 => k_is); (case lz63 => k_is); (case cz63 => k_is); (case kz63 => k_is); (case bz63 => exact fun _ _ _ _ _ _ us hl => match us, hl with | [_], _ => rfl)
    refine' Fk.with_fn KX G "_law_far" Fk.s__law_far ["_law_state", "_law_most"] ?az64 ?lz64 ?cz64 ?kz64 ?bz64 fun f__law_far => ?_
    (case az64 => k_is); (case lz64 => k_is); (case cz64 => k_is); (case kz64 => k_is); (case bz64 => exact fun _ _ _ _ _ _ us hl => match us, hl with | [_, _], _ => rfl)
    refine' Fk.with_fn KX G "_law_amount" Fk.s__law_amount ["_law_state"] ?az65 ?lz65 ?cz65 ?kz65 ?bz65 fun f__law_amount => ?_
    (case az65 => k_is); (case lz65 => k_is); (case cz65 => k_is); (case kz65 => k_is); (case bz65 => exact fun _ _ _ _ _ _ us hl => match us, hl with | [_], _ => rfl)
    refine' Fk.with_fn KX G "_law_sign" Fk.s__law_sign ["_law_key", "_law_meter", "_law_count", "_law_amount_here", "_law_kind_here"] ?az66 ?lz66 ?cz66 ?kz66 ?bz66 fun f__law_sign => ?_
    (case az66 => k_is); (case lz66 => k_is); (case cz66 => k_is); (case kz66 => k_is); (case bz66 => exact fun _ _ _ _ _ _ us hl => match us, hl with | [_, _, _, _, _], _ => rfl)
    refine' Fk.with_fn KX G "_law_code" Fk.s__law_code ["_law_key", "_law_meter", "_law_count", "_law_amount_here", "_law_kind_here"] ?az67 ?lz67 ?cz67 ?kz67 ?bz67 fun f__law_code => ?_
    (case az67 => k_is); (case lz67 => k_is); (case cz67 => k_is); (case kz67 => k_is); (case bz67 => exact fun _ _ _ _ _ _ us hl => match us, hl with | [_, _, _, _, _], _ => rfl)
    refine' Fk.with_fn KX G "_law_house" Fk.s__law_house ["_law_key", "_law_meters"] ?az68 ?lz68 ?cz68 ?kz68 ?bz68 fun f__law_house => ?_
    (case az68 => k_is); (case lz68 => k_is); (case cz68 => k_is); (case kz68 => k_is); (case bz68 => exact fun _ _ _ _ _ _ us hl => match us, hl with | [_, _], _ => rfl)
    refine' Fk.with_fn KX G "_law_buy" Fk.s__law_buy ["_law_h", "_law_amount_here"] ?az69 ?lz69 ?cz69 ?kz69 ?bz69 fun f__law_buy => ?_
    (case az69 => k_is); (case lz69 => k_is); (case cz69 => k_is); (case kz69 => k_is); (case bz69 => exact fun _ _ _ _ _ _ us hl => match us, hl with | [_, _], _ => rfl)
    refine' Fk.with_fn KX G "_law_issue" Fk.s__law_issue ["_law_h", "_law_meter", "_law_amount_here"] ?az70 ?lz70 ?cz70 ?kz70 ?bz70 fun f__law_issue => ?_
    (case az70 => k_is); (case lz70 => k_is); (case cz70 => k_is); (case kz70 => k_is); (case bz70 => exact fun _ _ _ _ _ _ us hl => match us, hl with | [_, _, _], _ => rfl)
    refine' Fk.with_fn KX G "_law_take_back" Fk.s__law_take_back ["_law_h", "_law_code_here"] ?az71 ?lz71 ?cz71 ?kz71 ?bz71 fun f__law_take_back => ?_
    (case az71 => k_is); (case lz71 => k_is); (case cz71 => k_is); (case kz71 => k_is); (case bz71 => exact fun _ _ _ _ _ _ us hl => match us, hl with | [_, _], _ => rfl)
    refine' Fk.with_fn KX G "_law_numbers" Fk.s__law_numbers ["_law_state", "_law_many"] ?az72 ?lz72 ?cz72 ?kz72 ?bz72 fun f__law_numbers => ?_
    (case az72 => k_is); (case lz72 => k_is); (case cz72 => k_is); (case kz72 => k_is); (case bz72 => exact fun _ _ _ _ _ _ us hl => match us, hl with | [_, _], _ => rfl)
    refine' Fk.with_fn KX G "_law_back" Fk.s__law_back ["_law_state", "_law_h"] ?az73 ?lz73 ?cz73 ?kz73 ?bz73 fun f__law_back => ?_
    (case az73 => k_is); (case lz73 => k_is); (case cz73 => k_is); (case kz73 => k_is); (case bz73 => exact fun _ _ _ _ _ _ us hl => match us, hl with | [_, _], _ => rfl)
    refine' Fk.with_fn KX G "_law_deed" Fk.s__law_deed ["_law_state", "_law_h"] ?az74 ?lz74 ?cz74 ?kz74 ?bz74 fun f__law_deed => ?_
    (case az74 => k_is); (case lz74 => k_is); (case cz74 => k_is); (case kz74 => k_is); (case bz74 => exact fun _ _ _ _ _ _ us hl => match us, hl with | [_, _], _ => rfl)
    refine' Fk.with_fn KX G "_law_due" Fk.s__law_due ["_law_h", "_law_deed_here"] ?az75 ?lz75 ?cz75 ?kz75 ?bz75 fun f__law_due => ?_
    (case az75 => k_is); (case lz75 => k_is); (case cz75 => k_is); (case kz75 => k_is); (case bz75 => exact fun _ _ _ _ _ _ us hl => match us, hl with | [_, _], _ => rfl)
    refine' Fk.with_fn KX G "_law_does" Fk.s__law_does ["_law_house_here", "_law_deed_here"] ?az76 ?lz76 ?cz76 ?kz76 ?bz76 fun f__law_does => ?_
    (case az76 => k_is); (case lz76 => k_is); (case cz76 => k_is); (case kz76 => k_is); (case bz76 => exact fun _ _ _ _ _ _ us hl => match us, hl with | [_, _], _ => rfl)
    refine' Fk.with_fcE KX G "law" Fk.s_law ["_law_script"] ?az77 ?lz77 ?ciz77 ?kz77 ?bz77 ?hdz77 ?tz77 ?nz77 fun f_law eP hT nP hC hB => ?_
    (case az77 => k_is); (case lz77 => k_is); (case ciz77 => k_is); (case kz77 => k_is); (case bz77 => exact fun _ _ _ _ _ _ us hl => match us, hl with | [_], _ => rfl); (case tz77 => exact hTs _ (List.Mem.head _)); (case nz77 => kernel_rfl); (case hdz77 => kernel_rfl)
    exact Fk.law_at { g_WHEEL := g_WHEEL, g_TOP := g_TOP, g_BACK := g_BACK, g_MOST_AMOUNT := g_MOST_AMOUNT, g_MOST_NUMBER := g_MOST_NUMBER, g_MOST_KEY := g_MOST_KEY, g_MOST_METERS := g_MOST_METERS, n_ValueError := n_ValueError, n_bool := n_bool, n_dict := n_dict, n_int := n_int, n_isinstance := n_isinstance, n_len := n_len, n_list := n_list, n_max := n_max, n_min := n_min, n_range := n_range, n_set := n_set, n_sorted := n_sorted, n_str := n_str, n_tuple := n_tuple, E_FrankError := _, x_FrankError := x_FrankError, E_NoBank := _, x_NoBank := x_NoBank, E_BadNumber := _, x_BadNumber := x_BadNumber, E_BadAmount := _, x_BadAmount := x_BadAmount, E_BadCode := _, x_BadCode := x_BadCode, E_Short := _, x_Short := x_Short, E_Down := _, x_Down := x_Down, E_Up := _, x_Up := x_Up, E_NoMeter := _, x_NoMeter := x_NoMeter, hd_FrankError := by k_is, i_NoBank := i_NoBank, i_BadNumber := i_BadNumber, i_BadAmount := i_BadAmount, i_BadCode := i_BadCode, i_Short := i_Short, i_Down := i_Down, i_Up := i_Up, i_NoMeter := i_NoMeter, kt_NoBank_NoBank := by kernel_rfl, kt_NoBank_BadNumber := by kernel_rfl, kt_NoBank_BadAmount := by kernel_rfl, kt_NoBank_BadCode := by kernel_rfl, kt_NoBank_Short := by kernel_rfl, kt_NoBank_Down := by kernel_rfl, kt_NoBank_Up := by kernel_rfl, kt_NoBank_NoMeter := by kernel_rfl, kt_BadNumber_NoBank := by kernel_rfl, kt_BadNumber_BadNumber := by kernel_rfl, kt_BadNumber_BadAmount := by kernel_rfl, kt_BadNumber_BadCode := by kernel_rfl, kt_BadNumber_Short := by kernel_rfl, kt_BadNumber_Down := by kernel_rfl, kt_BadNumber_Up := by kernel_rfl, kt_BadNumber_NoMeter := by kernel_rfl, kt_BadAmount_NoBank := by kernel_rfl, kt_BadAmount_BadNumber := by kernel_rfl, kt_BadAmount_BadAmount := by kernel_rfl, kt_BadAmount_BadCode := by kernel_rfl, kt_BadAmount_Short := by kernel_rfl, kt_BadAmount_Down := by kernel_rfl, kt_BadAmount_Up := by kernel_rfl, kt_BadAmount_NoMeter := by kernel_rfl, kt_BadCode_NoBank := by kernel_rfl, kt_BadCode_BadNumber := by kernel_rfl, kt_BadCode_BadAmount := by kernel_rfl, kt_BadCode_BadCode := by kernel_rfl, kt_BadCode_Short := by kernel_rfl, kt_BadCode_Down := by kernel_rfl, kt_BadCode_Up := by kernel_rfl, kt_BadCode_NoMeter := by kernel_rfl, kt_Short_NoBank := by kernel_rfl, kt_Short_BadNumber := by kernel_rfl, kt_Short_BadAmount := by kernel_rfl, kt_Short_BadCode := by kernel_rfl, kt_Short_Short := by kernel_rfl, kt_Short_Down := by kernel_rfl, kt_Short_Up := by kernel_rfl, kt_Short_NoMeter := by kernel_rfl, kt_Down_NoBank := by kernel_rfl, kt_Down_BadNumber := by kernel_rfl, kt_Down_BadAmount := by kernel_rfl, kt_Down_BadCode := by kernel_rfl, kt_Down_Short := by kernel_rfl, kt_Down_Down := by kernel_rfl, kt_Down_Up := by kernel_rfl, kt_Down_NoMeter := by kernel_rfl, kt_Up_NoBank := by kernel_rfl, kt_Up_BadNumber := by kernel_rfl, kt_Up_BadAmount := by kernel_rfl, kt_Up_BadCode := by kernel_rfl, kt_Up_Short := by kernel_rfl, kt_Up_Down := by kernel_rfl, kt_Up_Up := by kernel_rfl, kt_Up_NoMeter := by kernel_rfl, kt_NoMeter_NoBank := by kernel_rfl, kt_NoMeter_BadNumber := by kernel_rfl, kt_NoMeter_BadAmount := by kernel_rfl, kt_NoMeter_BadCode := by kernel_rfl, kt_NoMeter_Short := by kernel_rfl, kt_NoMeter_Down := by kernel_rfl, kt_NoMeter_Up := by kernel_rfl, kt_NoMeter_NoMeter := by kernel_rfl, C_House := _, cls_House := cls_House, g_House := g_House, mk_House_ := mk_House_, kc_House := kc_House, na_House_key := na_House_key, na_House_money := na_House_money, na_House_spent := na_House_spent, na_House_issues := na_House_issues, na_House_taken := na_House_taken, f_sign_of := f_sign_of, f_code_of := f_code_of, f_is_amount := f_is_amount, f_need_amount := f_need_amount, f_is_good := f_is_good, f_need_key := f_need_key, f_need_number := f_need_number, m_House___init__ := m_House___init__, m_House_funds := m_House_funds, m_House_bought := m_House_bought, m_House_buy := m_House_buy, m_House_need_meter := m_House_need_meter, m_House_issue := m_House_issue, m_House_last_code := m_House_last_code, m_House_take_back := m_House_take_back, f__law_start := f__law_start, f__law_drawn := f__law_drawn, f__law_same := f__law_same, f__law_kind := f__law_kind, f__law_far := f__law_far, f__law_amount := f__law_amount, f__law_sign := f__law_sign, f__law_code := f__law_code, f__law_house := f__law_house, f__law_buy := f__law_buy, f__law_issue := f__law_issue, f__law_take_back := f__law_take_back, f__law_numbers := f__law_numbers, f__law_back := f__law_back, f__law_deed := f__law_deed, f__law_due := f__law_due, f__law_does := f__law_does, f_law := f_law } hmg hT nP hC hB
theorem PySem.Challenge.cw_frankmeter_k09_houses_holds : PySem.Challenge.rw_frankmeter_k09_houses.Holds := by
  exact hd_test

