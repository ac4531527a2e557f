import PyProof.Rows.All
import Wide.All
import OpenK.AllK
import Wide.FinOn
import PySem.Challenge.RW_textsputback_k45_several_splices
import HandS.ForMost
import HandS.ForExc
import HandS.IsInst
import HandS.Style
import HandS.Property
import HandS.Codes
import HandS.Star
import HandS.CallSlots
import HandS.WordsExc
import HandS.ExcIs
import HandS.SortInts
set_option Elab.async false
set_option linter.all false
set_option maxRecDepth 100000
set_option maxHeartbeats 400000
/-! ### my short words for readings -/
namespace Gx
open PySem PySem.Spec PyProof.Rows L2
section
variable {σ : L2.St} {H : Hp} {Q : VK} {D : Ends} {ta tb te : TE} {t u : TS} {x y v : V} {K : PySem.W.Frag}
theorem seq (h : t { D with nx := u D } σ H) : tSeq t u D σ H := h
theorem nx {n : L2.St → Hp → Prop} {r : VK} {b c : L2.St → Hp → Prop} (h : n σ H) : Ends.nx ⟨n, r, b, c⟩ σ H := h
theorem rt {n : L2.St → Hp → Prop} {r : VK} {b c : L2.St → Hp → Prop} (h : r v H) : Ends.rt ⟨n, r, b, c⟩ v H := h
theorem bk {n : L2.St → Hp → Prop} {r : VK} {b c : L2.St → Hp → Prop} (h : b σ H) : Ends.bk ⟨n, r, b, c⟩ σ H := h
theorem ct {n : L2.St → Hp → Prop} {r : VK} {b c : L2.St → Hp → Prop} (h : c σ H) : Ends.ct ⟨n, r, b, c⟩ σ H := h
theorem next (h : D.nx σ H) : tNext D σ H := h
theorem brk (h : D.bk σ H) : tBreak D σ H := h
theorem cont (h : D.ct σ H) : tCont D σ H := h
theorem asg {g : TG} (h : te σ H fun x H1 => g x σ H1 D.nx) : tAsg te g D σ H := h
theorem ret (h : te σ H D.rt) : tRet te D σ H := h
theorem retN (h : D.rt .non H) : tRetN D σ H := h
theorem drop (h : te σ H fun _ H1 => D.nx σ H1) : tDrop te D σ H := h
theorem ifs {c : TT} (h : c σ H fun b H1 => if b = true then t D σ H1 else u D σ H1) : tIfS c t u D σ H := h
theorem var {i : Nat} (e : σ[i]? = some (some v)) (h : Q v H) : tVar i σ H Q := ⟨v, e, h⟩
theorem con (h : Q v H) : tC v σ H Q := h
theorem op {r : R2} (h : ta σ H fun x H1 => tb σ H1 fun y H2 => r x y H2 Q) : tOp r ta tb σ H Q := h
theorem un {r : V → Hp → VK → Prop} (h : ta σ H fun x H1 => r x H1 Q) : tUn r ta σ H Q := h
theorem i0 {g : Int → Int → V} {i j : Int} (h : Q (g i j) H) : rI0 g (.int i) (.int j) H Q := ⟨i, j, rfl, rfl, h⟩
theorem i1 {C : Int → Int → Prop} {g : Int → Int → V} {i j : Int} (c : C i j) (h : Q (g i j) H) : rI C g (.int i) (.int j) H Q := ⟨i, j, rfl, rfl, c, h⟩
theorem iu {g : Int → V} {i : Int} (h : Q (g i) H) : rU g (.int i) H Q := ⟨i, rfl, h⟩
theorem eqI {i j : Int} (h : Q (.bl (decide (i = j))) H) : rEq (.int i) (.int j) H Q := ⟨rfl, by rw [show decide (V.int i = V.int j) = decide (i = j) from by simp]; exact h⟩
theorem eqS {i j : Str} (h : Q (.bl (decide (i = j))) H) : rEq (.str i) (.str j) H Q := ⟨rfl, by rw [show decide (V.str i = V.str j) = decide (i = j) from by simp]; exact h⟩
theorem eqB {i j : Bool} (h : Q (.bl (decide (i = j))) H) : rEq (.bl i) (.bl j) H Q := ⟨rfl, by rw [show decide (V.bl i = V.bl j) = decide (i = j) from by simp]; exact h⟩
theorem neI {i j : Int} (h : Q (.bl (!decide (i = j))) H) : rNe (.int i) (.int j) H Q := ⟨rfl, by rw [show decide (V.int i = V.int j) = decide (i = j) from by simp]; exact h⟩
theorem neS {i j : Str} (h : Q (.bl (!decide (i = j))) H) : rNe (.str i) (.str j) H Q := ⟨rfl, by rw [show decide (V.str i = V.str j) = decide (i = j) from by simp]; exact h⟩
theorem isB {a b : Bool} (h : Q (.bl (decide (a = b))) H) : rIsB (.bl a) (.bl b) H Q := ⟨a, b, rfl, rfl, h⟩
theorem name {i : Nat} {N : L2.St → Hp → Prop} (h : N (σ.set i (some v)) H) : gName i v σ H N := h
theorem test {Q : Bool → Hp → Prop} (h : te σ H fun x H' => ∃ k, x = .bl k ∧ Q k H') : tTest te σ H Q := h
theorem tB {Q : Bool → Hp → Prop} (h : te σ H fun x H' => ∃ k, x = .bl k ∧ Q k H') : tB te σ H Q := h
theorem exb {b : Bool} {p : Bool → Prop} (h : p b) : ∃ k, V.bl b = .bl k ∧ p k := ⟨b, rfl, h⟩
theorem exi {b : Int} {p : Int → Prop} (h : p b) : ∃ k, V.int b = .int k ∧ p k := ⟨b, rfl, h⟩
theorem exs {b : Str} {p : Str → Prop} (h : p b) : ∃ k, V.str b = .str k ∧ p k := ⟨b, rfl, h⟩
theorem exr {b : Addr} {p : Addr → Prop} (h : p b) : ∃ k, V.ref b = .ref k ∧ p k := ⟨b, rfl, h⟩
theorem not {c : TT} {Q : Bool → Hp → Prop} (h : c σ H fun b H1 => Q (!b) H1) : tNot c σ H Q := h
theorem and {c d : TT} {Q : Bool → Hp → Prop} (h : c σ H fun b H1 => if b = true then d σ H1 Q else Q false H1) : tAnd c d σ H Q := h
theorem or {c d : TT} {Q : Bool → Hp → Prop} (h : c σ H fun b H1 => if b = true then Q true H1 else d σ H1 Q) : tOr c d σ H Q := h
theorem notV (h : te σ H fun x H1 => ∃ c, x = .bl c ∧ Q (.bl (!c)) H1) : tNotV te σ H Q := h
theorem andV (h : ta σ H fun x H1 => ∃ c, x = .bl c ∧ if c = true then tb σ H1 Q else Q (.bl false) H1) : tAndV ta tb σ H Q := h
theorem orV (h : ta σ H fun x H1 => ∃ c, x = .bl c ∧ if c = true then Q (.bl true) H1 else tb σ H1 Q) : tOrV ta tb σ H Q := h
theorem ifE {c : TT} (h : c σ H fun b H1 => if b = true then ta σ H1 Q else tb σ H1 Q) : tIf c ta tb σ H Q := h
theorem cb {r : List V → Hp → VK → Prop} {t : TA} (h : t σ H fun vs H1 => r vs H1 Q) : tCB r t σ H Q := h
theorem anil {Q : List V → Hp → Prop} (h : Q [] H) : tNil σ H Q := h
theorem acons {tr : TA} {Q : List V → Hp → Prop} (h : te σ H fun x H1 => tr σ H1 fun xs H2 => Q (x :: xs) H2) : tCons te tr σ H Q := h
def CallK (sp : Sp) (dvs : List V) (E : XK) (vs : List V) (H : Hp) (Q : VK) : Prop := sp (vs ++ dvs) H Q E
theorem call {sp : Sp} {dvs : List V} {E : XK} {t : TA} (h : t σ H fun vs H1 => CallK sp dvs E vs H1 Q) : tCall sp dvs E t σ H Q := h
theorem call0 {sp : Sp} {E : XK} {vs : List V} (h : sp vs H Q E) : CallK sp [] E vs H Q := by
  unfold CallK
  rw [List.append_nil]
  exact h
/-- a new tuple, a new list is laid -/
def NewT (xs : List V) (H : Hp) (Q : VK) : Prop := xs.length ≤ sizeLine ∧ ∀ p, H p = none → Q (.ref p) (upd H p (.tup xs))
def NewL (xs : List V) (H : Hp) (Q : VK) : Prop := xs.length ≤ sizeLine ∧ ∀ p, H p = none → Q (.ref p) (upd H p (.lst xs))
theorem tup {t : TA} (h : t σ H fun xs H1 => NewT xs H1 Q) : tTup t σ H Q := h
theorem lst {t : TA} (h : t σ H fun xs H1 => NewL xs H1 Q) : tLst t σ H Q := h
theorem sl {r : V → Option Int → Option Int → Hp → VK → Prop} {tl th : TO} (h : te σ H fun x H1 => tl σ H1 fun l H2 => th σ H2 fun u H3 => r x l u H3 Q) : tSl r te tl th σ H Q := h
theorem nopart {Q : Option Int → Hp → Prop} (h : Q none H) : tNoPart σ H Q := h
theorem part {Q : Option Int → Hp → Prop} (h : te σ H fun x H1 => ∃ i, x = .int i ∧ Q (some i) H1) : tPart te σ H Q := h
theorem slS {z : Str} {lo hi : Option Int} (e : z.length ≤ sizeLine) (h : Q (.str (cutS z lo hi)) H) : rSlS (.str z) lo hi H Q := ⟨z, rfl, e, h⟩
theorem slL {a : Addr} {xs : List V} {lo hi : Option Int} (e : SqL K H a xs) (h : ∀ p, H p = none → Q (.ref p) (upd H p (.lst (cutV xs lo hi)))) : rSlL K (.ref a) lo hi H Q := ⟨a, xs, rfl, e, h⟩
theorem aug {i : Nat} {ti : TIp} (e : σ[i]? = some (some x)) (h : te σ H fun y H1 => ti x y H1 fun z H2 => D.nx (σ.set i (some z)) H2) : tAug i te ti D σ H := ⟨x, e, h⟩
theorem ipi {f : Int → Int → Int} {i j : Int} (h : Q (.int (f i j)) H) : ipI f (.int i) (.int j) H Q := ⟨i, j, rfl, rfl, h⟩
/-! built-ins by name -/
def rLenS : List V → Hp → VK → Prop := fun xs H Q => ∃ z, xs = [.str z] ∧ z.length ≤ sizeLine ∧ Q (.int z.length) H
def rLenQ (K : PySem.W.Frag) : List V → Hp → VK → Prop := fun xs H Q => ∃ p ys, xs = [.ref p] ∧ (SqL K H p ys ∨ SqT K H p ys) ∧ Q (.int ys.length) H
def rAbs : List V → Hp → VK → Prop := fun xs H Q => ∃ i, xs = [.int i] ∧ Q (.int (if i < 0 then -i else i)) H
def rMin2 : List V → Hp → VK → Prop := fun xs H Q => ∃ i j, xs = [.int i, .int j] ∧ Q (.int (if j < i then j else i)) H
def rMax2 : List V → Hp → VK → Prop := fun xs H Q => ∃ i j, xs = [.int i, .int j] ∧ Q (.int (if j > i then j else i)) H
def rInt1 : List V → Hp → VK → Prop := fun xs H Q => (∃ i, xs = [.int i] ∧ Q (.int i) H) ∨ ∃ k, xs = [.bl k] ∧ Q (.int (if k then 1 else 0)) H
def rAddS : R2 := fun x y H Q => ∃ i j, x = .str i ∧ y = .str j ∧ i.length + j.length ≤ sizeLine ∧ Q (.str (i ++ j)) H
theorem addS {i j : Str} (c : i.length + j.length ≤ sizeLine) (h : Q (.str (i ++ j)) H) : rAddS (.str i) (.str j) H Q := ⟨i, j, rfl, rfl, c, h⟩
theorem lenS {z : Str} (c : z.length ≤ sizeLine) (h : Q (.int z.length) H) : rLenS [.str z] H Q := ⟨z, rfl, c, h⟩
theorem lenL {p : Addr} {xs : List V} (c : SqL K H p xs) (h : Q (.int xs.length) H) : rLenQ K [.ref p] H Q := ⟨p, xs, rfl, .inl c, h⟩
theorem lenT {p : Addr} {xs : List V} (c : SqT K H p xs) (h : Q (.int xs.length) H) : rLenQ K [.ref p] H Q := ⟨p, xs, rfl, .inr c, h⟩
theorem abs {i : Int} (h : Q (.int (if i < 0 then -i else i)) H) : rAbs [.int i] H Q := ⟨i, rfl, h⟩
theorem min2 {i j : Int} (h : Q (.int (if j < i then j else i)) H) : rMin2 [.int i, .int j] H Q := ⟨i, j, rfl, h⟩
theorem max2 {i j : Int} (h : Q (.int (if j > i then j else i)) H) : rMax2 [.int i, .int j] H Q := ⟨i, j, rfl, h⟩
theorem int1 {i : Int} (h : Q (.int i) H) : rInt1 [.int i] H Q := .inl ⟨i, rfl, h⟩
theorem ixL {p : Addr} {xs : List V} {i : Int} (c : SqL K H p xs) (a : atI xs i = some v) (h : Q v H) : rIxL K (.ref p) (.int i) H Q := ⟨p, xs, i, v, rfl, rfl, c, a, h⟩
theorem atI_map {α : Type} {f : α → V} {xs : List α} {d : α} {i : Int} (h0 : 0 ≤ i) (h1 : i < xs.length) : atI (xs.map f) i = some (f (xs.getD i.toNat d)) := by
  have e : i = ((i.toNat : Nat) : Int) := by omega
  have h2 : i.toNat < xs.length := by omega
  rw [e]
  refine atI_nat ?_
  rw [List.getElem?_map, Int.toNat_natCast, List.getElem?_eq_getElem h2, List.getD_eq_getElem?_getD, List.getElem?_eq_getElem h2]
  rfl
theorem ixLI {p : Addr} {xs : List Int} {i : Int} (c : SqL K H p (xs.map V.int)) (h0 : 0 ≤ i) (h1 : i < xs.length) (h : Q (.int (xs.getD i.toNat 0)) H) : rIxL K (.ref p) (.int i) H Q := ⟨p, _, i, _, rfl, rfl, c, atI_map h0 h1, h⟩
theorem lenLm {α : Type} {f : α → V} {p : Addr} {xs : List α} (c : SqL K H p (xs.map f)) (h : Q (.int xs.length) H) : rLenQ K [.ref p] H Q := ⟨p, _, rfl, .inl c, by rw [List.length_map]; exact h⟩
theorem lenTm {α : Type} {f : α → V} {p : Addr} {xs : List α} (c : SqT K H p (xs.map f)) (h : Q (.int xs.length) H) : rLenQ K [.ref p] H Q := ⟨p, _, rfl, .inr c, by rw [List.length_map]; exact h⟩
theorem ixT {p : Addr} {xs : List V} {i : Int} (c : SqT K H p xs) (a : atI xs i = some v) (h : Q v H) : rIxT K (.ref p) (.int i) H Q := ⟨p, xs, i, v, rfl, rfl, c, a, h⟩
theorem ixS {z : Str} {i : Int} {c : Nat} (l : z.length ≤ sizeLine) (a : atI z.cps.toList i = some c) (h : Q (.str ⟨#[c]⟩) H) : rIxS (.str z) (.int i) H Q := ⟨z, i, c, rfl, rfl, l, a, h⟩
theorem bm {T : String} {r : V → List V → Hp → VK → Prop} {t : TA} (h : ta σ H fun x H1 => tyV K T x H1 ∧ t σ H1 fun xs H2 => r x xs H2 Q) : tBM K T r ta t σ H Q := h
theorem bm0 {T : String} {r : V → List V → Hp → VK → Prop} (h : ta σ H fun x H1 => tyV K T x H1 ∧ r x [] H1 Q) : tBM0 K T r ta σ H Q := h
theorem tyL {p : Addr} {xs : List V} {A : Prop} (e : H p = some (.lst xs)) (h : A) : tyV K "list" (.ref p) H ∧ A := ⟨.inl ⟨rfl, _, .inl (.inl e)⟩, h⟩
theorem app {p : Addr} {xs : List V} (e : H p = some (.lst xs)) (c : xs.length < sizeLine) (h : Q .non (upd H p (.lst (xs ++ [y])))) : rAppend (.ref p) [y] H Q := ⟨p, xs, y, rfl, rfl, e, c, h⟩
theorem appI {p : Addr} {xs : List Int} {z : Int} (e : H p = some (.lst (xs.map V.int))) (c : xs.length < 16777216) (h : Q .non (upd H p (.lst ((xs ++ [z]).map V.int)))) : rAppend (.ref p) [.int z] H Q := ⟨p, _, _, rfl, rfl, e, by rw [List.length_map, sizeLine_eq]; exact c, by rw [List.map_append] at h; exact h⟩
theorem appS {p : Addr} {xs : List Str} {z : Str} (e : H p = some (.lst (xs.map V.str))) (c : xs.length < 16777216) (h : Q .non (upd H p (.lst ((xs ++ [z]).map V.str)))) : rAppend (.ref p) [.str z] H Q := ⟨p, _, _, rfl, rfl, e, by rw [List.length_map, sizeLine_eq]; exact c, by rw [List.map_append] at h; exact h⟩
theorem appR {p : Addr} {xs : List Addr} {z : Addr} (e : H p = some (.lst (xs.map V.ref))) (c : xs.length < 16777216) (h : Q .non (upd H p (.lst ((xs ++ [z]).map V.ref)))) : rAppend (.ref p) [.ref z] H Q := ⟨p, _, _, rfl, rfl, e, by rw [List.length_map, sizeLine_eq]; exact c, by rw [List.map_append] at h; exact h⟩
theorem for_ {wi : TI} {g : TG} (h : wi σ H fun J H1 => ∃ W : Nat → Nat → L2.St → Hp → Prop, (∃ m, W 0 m σ H1) ∧ ∀ i m σ H, W i m σ H →
  (J.stop i H ∧ D.nx σ H) ∨ (J.go i H ∧ ∃ N : L2.St → Hp → Prop, (∀ σ' H', N σ' H' → ∃ m', m' < m ∧ W (i + 1) m' σ' H') ∧ ∀ x H', J.yld i H x H' → g x σ H' fun σ2 H2 => t { D with nx := N, ct := N, bk := D.nx } σ2 H2)) : tFor wi g t D σ H := h
theorem rng1 {tas : TA} {R : It → Hp → Prop} (h : tas σ H fun vs H1 => ∃ j : Int, vs = [.int j] ∧ -(2 ^ 62) ≤ j ∧ j < 2 ^ 62 ∧ R (Itr 0 j.toNat) H1) : iRng1 tas σ H R := h
theorem rng2 {tas : TA} {R : It → Hp → Prop} (h : tas σ H fun vs H1 => ∃ i j : Int, vs = [.int i, .int j] ∧ (-(2 ^ 62) ≤ i ∧ i < 2 ^ 62 ∧ -(2 ^ 62) ≤ j ∧ j < 2 ^ 62) ∧ R (Itr i (j - i).toNat) H1) : iRng2 tas σ H R := h
theorem ilst {R : It → Hp → Prop} (h : te σ H fun x H1 => ∃ a, x = .ref a ∧ (∃ xs, SqL K H1 a xs) ∧ R (Itl K a) H1) : iList K te σ H R := h
theorem itup {R : It → Hp → Prop} (h : te σ H fun x H1 => ∃ a, x = .ref a ∧ (∃ xs, SqT K H1 a xs) ∧ R (Itt K a) H1) : iTup K te σ H R := h
theorem lc {wi : TI} {g : TG} {tt : TT} {vs : List Nat} (h : wi σ H fun J H1 => ∀ D, H1 D = none → ∃ W : Nat → Nat → Hp → Prop, (∃ m, W 0 m (upd H1 D (.lst []))) ∧ ∀ i m H, W i m H →
  (J.stop i H ∧ Q (.ref D) H) ∨ (J.go i H ∧ ∃ Nx : Hp → Prop, (∀ H', Nx H' → ∃ m', m' < m ∧ W (i + 1) m' H') ∧ ∀ x H', J.yld i H x H' → g x (wipe σ vs) H' fun σ2 H2 => wipe σ2 vs = wipe σ vs ∧ tt σ2 H2 fun b H3 =>
    if b = true then te σ2 H3 fun y H4 => ∃ acc, H4 D = some (.lst acc) ∧ acc.length < sizeLine ∧ Nx (upd H4 D (.lst (acc ++ [y]))) else Nx H3)) : tLc wi g tt te vs σ H Q := h
theorem yes {Q : Bool → Hp → Prop} (h : Q true H) : tYes σ H Q := h
/-- a new object: the heap behind it by what is known of it -/
structure Ext1 (H H1 : Hp) (p : Addr) (o : HO) : Prop where
  fresh : H p = none
  same : Same H H1
  at_ : H1 p = some o
  off : ∀ b, b ≠ p → H1 b = H b
theorem new {o : HO} {R : Addr → Hp → Prop} (h : ∀ p H1, Ext1 H H1 p o → R p H1) : ∀ p, H p = none → R p (upd H p o) := fun p np =>
  h p _ ⟨np, fun b u e => by rw [upd_ne (ne_of_none e np)]; exact e, upd_same, fun b hb => upd_ne hb⟩
theorem ext1 {p : Addr} {o : HO} (np : H p = none) : Ext1 H (upd H p o) p o := ⟨np, fun b u e => by rw [upd_ne (ne_of_none e np)]; exact e, upd_same, fun b hb => upd_ne hb⟩
theorem newL {xs : List V} (c : xs.length ≤ 16777216) (h : ∀ p H1, Ext1 H H1 p (.lst xs) → Q (.ref p) H1) : NewL xs H Q := ⟨by rw [sizeLine_eq]; exact c, fun p np => h p _ (ext1 np)⟩
theorem newT {xs : List V} (c : xs.length ≤ 16777216) (h : ∀ p H1, Ext1 H H1 p (.tup xs) → Q (.ref p) H1) : NewT xs H Q := ⟨by rw [sizeLine_eq]; exact c, fun p np => h p _ (ext1 np)⟩
theorem slL1 {a : Addr} {xs : List V} {lo hi : Option Int} (e : SqL K H a xs) (h : ∀ p H1, Ext1 H H1 p (.lst (cutV xs lo hi)) → Q (.ref p) H1) : rSlL K (.ref a) lo hi H Q := ⟨a, xs, rfl, e, fun p np => h p _ (ext1 np)⟩
theorem cat1 {a b : Addr} {xs ys : List V} (e1 : H a = some (.lst xs)) (e2 : H b = some (.lst ys)) (c : xs.length + ys.length ≤ 16777216) (h : ∀ p H1, Ext1 H H1 p (.lst (xs ++ ys)) → Q (.ref p) H1) : rCat (.ref a) (.ref b) H Q :=
  ⟨a, b, xs, ys, rfl, rfl, e1, e2, by rw [sizeLine_eq]; exact c, fun p np => h p _ (ext1 np)⟩
/-- a new list or tuple is displayed -/
theorem newD {n : Nat} {o : HO} {R : Addr → Hp → Prop} (c : n ≤ sizeLine) (h : ∀ p H1, Ext1 H H1 p o → R p H1) : n ≤ sizeLine ∧ ∀ p, H p = none → R p (upd H p o) := ⟨c, new h⟩
/-- an object that H0 does not know is written -/
theorem Same.put {H0 H1 : Hp} {p : Addr} {o : HO} (s : Same H0 H1) (n : H0 p = none) : Same H0 (upd H1 p o) := fun b u e => by rw [upd_ne (ne_of_none e n)]; exact s b u e
theorem made_same {H H' : Hp} {x dx C : Addr} {fs : List (Str × V)} (nx : H x = none) (ndx : H dx = none) (off : ∀ b, b ≠ x → H' b = (upd (upd H dx (.own x)) x (.ins C dx fs)) b) : Same H H' := fun b o e => by
  rw [off b (ne_of_none e nx), upd_ne (ne_of_none e nx), upd_ne (ne_of_none e ndx)]
  exact e
theorem and2 {p1 p2 : Prop} [Decidable p1] [Decidable p2] {tb : TE} (hb : p1 → ∀ Q' : VK, Q' (.bl (decide p2)) H → tb σ H Q') (h : Q (.bl (decide (p1 ∧ p2))) H) : if decide p1 = true then tb σ H Q else Q (.bl false) H := by
  by_cases h1 : p1
  · rw [decide_eq_true h1]
    refine hb h1 _ ?_
    rw [show decide (p1 ∧ p2) = decide p2 from decide_eq_decide.mpr ⟨fun h => h.2, fun h => ⟨h1, h⟩⟩] at h
    exact h
  · rw [decide_eq_false h1]
    rw [show decide (p1 ∧ p2) = false from decide_eq_false fun z => h1 z.1] at h
    exact h
theorem and3 {p1 p2 p3 : Prop} [Decidable p1] [Decidable p2] [Decidable p3] {tb tc : TE} (hb : p1 → ∀ Q' : VK, Q' (.bl (decide p2)) H → tb σ H Q') (hc : p1 → p2 → ∀ Q' : VK, Q' (.bl (decide p3)) H → tc σ H Q')
    (h : Q (.bl (decide (p1 ∧ p2 ∧ p3))) H) : if decide p1 = true then tAndV tb tc σ H Q else Q (.bl false) H :=
  and2 (p2 := p2 ∧ p3) (fun h1 Q' q => hb h1 _ ⟨_, rfl, and2 (hc h1) q⟩) h
theorem ok2 : (2 : Int) ^ 62 = 4611686018427387904 := by decide
theorem iteD {p : Prop} [Decidable p] {A B : Prop} (h1 : p → A) (h2 : ¬ p → B) : if decide p = true then A else B := by
  by_cases h : p
  · rw [decide_eq_true h]; exact h1 h
  · rw [decide_eq_false h]; exact h2 h
theorem iteDn {p : Prop} [Decidable p] {A B : Prop} (h1 : ¬ p → A) (h2 : p → B) : if (!decide p) = true then A else B := by
  by_cases h : p
  · rw [decide_eq_true h]; exact h2 h
  · rw [decide_eq_false h]; exact h1 h
theorem iteB {b : Bool} {A B : Prop} (h1 : b = true → A) (h2 : b = false → B) : if b = true then A else B := by
  cases b
  · exact h2 rfl
  · exact h1 rfl
theorem iteNB {b : Bool} {A B : Prop} (h1 : b = false → A) (h2 : b = true → B) : if (!b) = true then A else B := by
  cases b
  · exact h1 rfl
  · exact h2 rfl
theorem cmulR {i j : Int} (h1 : -18446744073709551616 < j) (h2 : j < 18446744073709551616) : CMul i j := .inr ⟨by simpa using h1, by simpa using h2⟩
theorem cmulL {i j : Int} (h1 : -18446744073709551616 < i) (h2 : i < 18446744073709551616) : CMul i j := .inl ⟨by simpa using h1, by simpa using h2⟩
theorem cdiv {i j : Int} (h1 : 0 < j) (h2 : j < 1073741824) : CDiv i j := ⟨h1, h2⟩
theorem cpow {i j : Int} (h1 : 0 ≤ j) (h2 : j ≤ 1000000) (h3 : i.natAbs < 18446744073709551616) : CPow i j := ⟨h1, h2, by simpa using h3⟩
theorem line {n : Nat} (h : n ≤ 16777216) : n ≤ sizeLine := by rw [sizeLine_eq]; exact h
theorem lineL {n : Nat} (h : n < 16777216) : n < sizeLine := by rw [sizeLine_eq]; exact h
theorem itT {A B : Prop} (h : A) : if true = true then A else B := h
theorem itNtt {A B : Prop} (h : B) : if (!(true == true)) = true then A else B := h
theorem itNff {A B : Prop} (h : B) : if (!(false == false)) = true then A else B := h
theorem ittt {A B : Prop} (h : A) : if (true == true) = true then A else B := h
theorem itff {A B : Prop} (h : A) : if (false == false) = true then A else B := h
theorem itNF {A B : Prop} (h : A) : if (!false) = true then A else B := h
theorem itNT {A B : Prop} (h : B) : if (!true) = true then A else B := h
theorem itF {A B : Prop} (h : B) : if false = true then A else B := h
def rIsN : R2 := fun x y H Q => y = .non ∧ Q (.bl (decide (x = .non))) H
def rNotN : R2 := fun x y H Q => y = .non ∧ Q (.bl (!decide (x = .non))) H
theorem isNn (h : Q (.bl true) H) : rIsN .non .non H Q := ⟨rfl, h⟩
theorem isNi {i : Int} (h : Q (.bl false) H) : rIsN (.int i) .non H Q := ⟨rfl, h⟩
theorem isNs {i : Str} (h : Q (.bl false) H) : rIsN (.str i) .non H Q := ⟨rfl, h⟩
theorem isNb {i : Bool} (h : Q (.bl false) H) : rIsN (.bl i) .non H Q := ⟨rfl, h⟩
theorem isNr {i : Addr} (h : Q (.bl false) H) : rIsN (.ref i) .non H Q := ⟨rfl, h⟩
theorem notNn (h : Q (.bl false) H) : rNotN .non .non H Q := ⟨rfl, h⟩
theorem notNi {i : Int} (h : Q (.bl true) H) : rNotN (.int i) .non H Q := ⟨rfl, h⟩
theorem notNs {i : Str} (h : Q (.bl true) H) : rNotN (.str i) .non H Q := ⟨rfl, h⟩
theorem notNb {i : Bool} (h : Q (.bl true) H) : rNotN (.bl i) .non H Q := ⟨rfl, h⟩
theorem notNr {i : Addr} (h : Q (.bl true) H) : rNotN (.ref i) .non H Q := ⟨rfl, h⟩
variable {X : Cx}
theorem op_isNG : OpR X (compareOp .Is) rIsN := op_isN
theorem op_notNG : OpR X (compareOp .IsNot) rNotN := op_notN
theorem cr_lenS : CallR X (.builtin "len") rLenS := call_len_str
theorem cr_lenQ : CallR X (.builtin "len") (rLenQ X.K) := call_len_seq
theorem cr_abs : CallR X (.builtin "abs") rAbs := call_abs
theorem cr_min2 (hc : X.calm = true) : CallR X (.builtin "min") rMin2 := call_min2 hc
theorem cr_max2 (hc : X.calm = true) : CallR X (.builtin "max") rMax2 := call_max2 hc
theorem cr_int1 : CallR X (.type "int") rInt1 := call_int1
theorem op_addS : OpR X (binaryOp .Add) rAddS := op_add_str
end
end Gx
/-! ### further rules of mine -/
namespace Gx
open PySem PySem.Spec PyProof.Rows L2
section
variable {X : Cx} {C g f : Addr} {bmB : List Value} {B newId initId : String} {CX : CXT} {k n : Nat} {fd : FuncData} {ps : List Str} {sp : Sp} {o fe e : Expr} {es : List Expr} {ta tf : TE} {t : TA} {m : Str} {p pos apos : Pos}
/-- X() of an own exception class -/
theorem pmk_own0 {x : Str} (F : ExcBaseFacts B newId initId bmB) (q : PySem.W.excIn X.K C bmB newId = true) (gC : X.mg x = some (.ref C)) (kC : PySem.W.keepIn X.K (.ref C) = true) (r : Raises X (.ref C)) (hg : Gl X x)
    (hdb : (x == ("__debug__" : Str)) = false := by decide) : PMk X (.Call (.Name x p) [] [] pos) (fun _ H Q => Q (.ref C) none H) := by
  intro pins s σ H Q I h
  refine wpAny_Call_Name_kw (ld_glob I hg gC ?_ hdb)
  refine PySem.W.callWith_K0 (first := []) I.kIn kC ?_
  obtain ⟨bm, N, nm, qn, bs, hdct, sn, sub, ab, col, dd, k0, k1, k2, k3, k5, mN, hC, hN, hni, T⟩ := exc_obj I.kIn q
  refine wpAny_call_exc_subT F T hC hN hni (fun h' e hm => ?_) (by show 0 ≤ sizeLine; rw [sizeLine_eq]; omega)
  exact mk_of I hm r h (I.hok.gone hm.new)
/-- o.m(e, ..) where what is raised is wished for at the slots -/
def tMethS (C : Addr) (m : Str) (sp : Sp) (E : L2.St → XK) (ta : TE) (t : TA) : TE := fun σ H Q => ta σ H fun x H1 => ∃ a dx fs, x = .ref a ∧ H1 a = some (.ins C dx fs) ∧ fs.lookup m = none ∧
  t σ H1 fun vs H2 => sp (x :: vs) H2 Q (E σ)
theorem pe_methS {E : L2.St → XK} {pl : Sem Bool} (he : PE X o ta) (c : Cls X.K C) (hm : Meth X.K C m f) (F : FnOk X.prog X.w X.K X.mg X.base CX k f fd ps sp) (hr : Room k X.A) (hb : Binds X.K fd ps []) (hx : ∀ σ, PassesAt CX X σ (E σ)) (ha : PA X (e :: es) t)
    (hst : starEach (e :: es) X.env = (false, eval e X.env) :: starEach es X.env := by rfl) (hpl : (backTo pos (starEach es X.env)).any (·.1) = false := by rfl)
    (ht : eval (.Call (.Attribute o m apos) (e :: es) [] pos) X.env = (do
      let ov ← eval o X.env
      standAt apos.atName
      let (f, first) ← holding [ov] (getMethod ov m pl)
      callWith pos f first (backTo pos (starEach (e :: es) X.env)) (backToKw pos (keywordEach [] X.env))) := by rfl) :
    PE X (.Call (.Attribute o m apos) (e :: es) [] pos) (tMethS C m sp E ta t) := by
  refine ⟨fun pins s σ H Q I h => ?_⟩
  refine PySem.W.methodCall_KW (pl := pl) (thn (he.run pins s σ H _ I h) fun u s1 ⟨x, H1, I1, rx, a, dx, fs, ex, ea, l, q⟩ => ?_) ht
  subst ex
  obtain rfl : u = Value.ref a := rx
  refine getmeth_ok I1 ea c hm l ?_
  refine PySem.W.callWith_K (first := [.ref a]) (h₀ := X.base) I.ok.mod.kin hm.kp (thn (ha.run pos pins s1 σ H1 _ I1 q) fun us s2 ⟨vs, H2, I2, r, q2⟩ => ⟨I2.kIn, ?_⟩) hst hpl
  exact run_fnS (us := .ref a :: us) (vs := .ref a :: vs) F hr hb (hx σ) I2 (.cons rfl r) q2
/-- the instance's call: its node's code -/
theorem code_fnS {E : L2.St → XK} {pins : List (Addr × Obj)} {σ : L2.St} {H : Hp} {s : Shared} {Q : VK} {us : List Value} {vs : List V} (F : FnOk X.prog X.w X.K X.mg X.base CX k f fd ps sp) (hr : Room k X.A) (hb : Binds X.K fd ps []) (hx : PassesAt CX X σ (E σ))
    (I : Inv X pins σ H s) (r : Vals vs us) (h : sp vs H Q (E σ)) : codeAny (model X.prog X.w) X.A (.call (.ref f) ⟨us, []⟩) (wants (EP X pins σ Q) X.xe) s := by
  have hl : us.length = ps.length := by rw [← r.length]; exact F.len _ _ _ _ h
  have b := hb s us I.kIn (by rw [List.append_nil]; exact hl)
  rw [List.append_nil] at b
  refine codeAny_mono (F.run X.A X.stack s H ⟨us, []⟩ us vs Q (E σ) hr I.env0 b r h) fun r s' hq => ?_
  cases r with
  | error e => exact hx pins H s e s' I hq
  | ok fl =>
    cases fl with
    | ret u => exact I.after hq
    | next => exact False.elim hq
    | brk => exact False.elim hq
    | cont => exact False.elim hq
/-- o(e, ..), o an instance of C with __call__ -/
def tCallOS (C : Addr) (sp : Sp) (E : L2.St → XK) (tf : TE) (t : TA) : TE := fun σ H Q => tf σ H fun y H1 => ∃ a, y = V.ref a ∧ t σ H1 fun vs H2 => (∃ dx fs, H2 a = some (.ins C dx fs)) ∧ sp (V.ref a :: vs) H2 Q (E σ)
theorem pe_callOS {E : L2.St → XK} (hf : PE X fe tf) (c : StX.CallO X.K C g) (F : FnOk X.prog X.w X.K X.mg X.base CX k g fd ps sp) (hr : Room k X.A) (hb : Binds X.K fd ps []) (hx : ∀ σ, PassesAt CX X σ (E σ)) (ha : PA X (e :: es) t)
    (ht : eval (.Call fe (e :: es) [] pos) X.env = (do callWith pos (← eval fe X.env) [] (backTo pos (starEach (e :: es) X.env)) (backToKw pos (keywordEach [] X.env))) := by rfl)
    (he : starEach (e :: es) X.env = (false, eval e X.env) :: starEach es X.env := by rfl) (hpl : (backTo pos (starEach es X.env)).any (·.1) = false := by rfl) : PE X (.Call fe (e :: es) [] pos) (tCallOS C sp E tf t) := by
  refine ⟨fun pins s σ H Q I h => ?_⟩
  refine Call_ (thn (hf.run pins s σ H _ I h) fun u s1 ⟨y, H1, I1, ry, a, ey, q⟩ => ?_) ht
  subst ey
  obtain rfl : u = Value.ref a := ry
  refine StX.callO_with (thn (ha.run pos pins s1 σ H1 _ I1 q) fun us s2 ⟨vs, H2, I2, r, ⟨dx, fs, hi⟩, q2⟩ => ?_) he hpl
  obtain ⟨ox, od, J, hd⟩ := StX.insC_at (X := X) I2 (.inr ⟨dx, fs, hi⟩)
  refine ⟨⟨C, ox, od, J, hd⟩, wpAny_call (PySem.W.kco_code I2.kIn J hd c.at_ c.fn c.fi ?_)⟩
  exact code_fnS (us := .ref a :: us) (vs := .ref a :: vs) F hr hb (hx σ) I2 (.cons rfl r) q2
/-- x == y, x an instance of C with its own __eq__ -/
def rEqO (C : Addr) (sp : Sp) (K : PySem.W.Frag) : R2 := fun x y H Q => ∃ a dx fs tb, x = .ref a ∧ H a = some (.ins C dx fs) ∧ TyX K H y tb ∧ PySem.W.notFirst K C tb = true ∧ sp [x, y] H (fun v H' => (∃ b, v = .bl b) ∧ Q v H') E0
theorem looks_ty {K : PySem.W.Frag} {M : Model} {pins : List (Addr × Obj)} {σ : L2.St} {H : Hp} {s : Shared} {x : V} {u t : Value} (I : Inv X pins σ H s) (rx : RelV x u) (ty : TyX X.K H x t) : PySem.W.Looks M s.heap (typeOf u) t := by
  obtain ⟨P, Z, p, _⟩ := kit_of I rx ty
  exact Z.ty _ _ I.kIn p
theorem op_eqO (c : PySem.W.findIn X.K (.ref C) "__eq__" = some (some (.ref f))) (hf : PySem.W.isFn X.K (.ref f) = true) (F : FnOk X.prog X.w X.K X.mg X.base CX0 k f fd ps sp) (hr : Room k X.A) (hb : Binds X.K fd ps []) : OpR X (compareOp .Eq) (rEqO C sp X.K) := by
  intro pins s σ H x y v u Q I rx ry hq
  obtain ⟨a, dx, fs, tb, rfl, ha, ty, nf, q⟩ := hq
  obtain rfl : v = Value.ref a := rx
  show wpAny (model X.prog X.w) X.A (richCompare .Eq (.ref a) u) (EP X pins σ Q) X.xe s
  obtain ⟨mA, J, _⟩ := ins_get I.hok ha
  obtain ⟨od, J, _⟩ := J.look
  obtain ⟨m, hF⟩ := I.fr
  refine PySem.W.cmp_K (op := .Eq) (tb := tb) hr.units0 hF I.ok.mod.kin J (looks_ty (K := X.K) I ry ty) nf c hf ?_
  refine wpAny_mono (run_fn (us := [.ref a, u]) (vs := [.ref a, y]) (ds := []) (dvs := []) F hr hb .nil pass0 I (.cons rfl (.cons ry .nil)) q) (fun z s' hz => ?_) fun _ _ h => h
  obtain ⟨v', H', I', rv, ⟨b, rfl⟩, q'⟩ := hz
  cases rv
  exact ⟨V.bl b, H', I', rfl, q'⟩
/-- isinstance(e, T), e the exception that the suite holds -/
def rIsE' (K : PySem.W.Frag) (D a : Addr) (cls : Value) (d : Option Addr) : List V → Hp → VK → Prop := fun xs H Q => cls = .ref D ∧ d = none ∧ rIsE K D a xs H Q
theorem cr_isE {a D : Addr} {cls : Value} {d : Option Addr} {oe : Obj} {pn : List (Addr × Obj)} (C : ExcC X.K D) (hz : Zc cls d oe) (hf : ∃ vs, oe.data = .fields vs) : CallR (X.suite a ((a, oe) :: pn)) (.builtin "isinstance") (rIsE' X.K D a cls d) := by
  intro pins s σ H xs us Q I r h
  obtain ⟨rfl, rfl, h⟩ := h
  exact call_isE C hz hf pins s σ H xs us Q I r h
theorem isi {K : PySem.W.Frag} {H : Hp} {Q : VK} {x c : V} {t u : Value} {b : Bool} (hc : ClsV c u) (ht : TyX K H x t) (e : PySem.W.kitOne K t u = some b) (h : Q (.bl b) H) : rIsi K [x, c] H Q := ⟨x, c, t, u, b, rfl, hc, ht, e, h⟩
theorem tyX_L {K : PySem.W.Frag} {H : Hp} {a : Addr} {xs : List V} (h : SqL K H a xs) : TyX K H (.ref a) (.type "list") := by
  rcases h with (h | ⟨o, h⟩) | ⟨o, its, n, h, hc, _⟩
  · exact .base (.lst h)
  · exact .base (.frz h)
  · exact .kList h hc
theorem tyX_T {K : PySem.W.Frag} {H : Hp} {a : Addr} {xs : List V} (h : SqT K H a xs) : TyX K H (.ref a) (.type "tuple") := by
  rcases h with (h | ⟨o, h⟩) | ⟨o, its, n, h, hc, _⟩
  · exact .base (.tup h)
  · exact .fTuple h
  · exact .kTuple h hc
theorem isi_ni {K : PySem.W.Frag} {H : Hp} {Q : VK} (h : Q (.bl false) H) : rIsi K [.non, .ty "int"] H Q := isi (.ty _) (.base .non) (kit_ty (by decide +kernel)) h
theorem isi_nb {K : PySem.W.Frag} {H : Hp} {Q : VK} (h : Q (.bl false) H) : rIsi K [.non, .ty "bool"] H Q := isi (.ty _) (.base .non) (kit_ty (by decide +kernel)) h
theorem isi_ns {K : PySem.W.Frag} {H : Hp} {Q : VK} (h : Q (.bl false) H) : rIsi K [.non, .ty "str"] H Q := isi (.ty _) (.base .non) (kit_ty (by decide +kernel)) h
theorem isi_nl {K : PySem.W.Frag} {H : Hp} {Q : VK} (h : Q (.bl false) H) : rIsi K [.non, .ty "list"] H Q := isi (.ty _) (.base .non) (kit_ty (by decide +kernel)) h
theorem isi_nt {K : PySem.W.Frag} {H : Hp} {Q : VK} (h : Q (.bl false) H) : rIsi K [.non, .ty "tuple"] H Q := isi (.ty _) (.base .non) (kit_ty (by decide +kernel)) h
theorem isi_ii {K : PySem.W.Frag} {H : Hp} {Q : VK} {i : Int} (h : Q (.bl true) H) : rIsi K [.int i, .ty "int"] H Q := isi (.ty _) (.base (.int i)) (kit_ty (by decide +kernel)) h
theorem isi_ib {K : PySem.W.Frag} {H : Hp} {Q : VK} {i : Int} (h : Q (.bl false) H) : rIsi K [.int i, .ty "bool"] H Q := isi (.ty _) (.base (.int i)) (kit_ty (by decide +kernel)) h
theorem isi_is {K : PySem.W.Frag} {H : Hp} {Q : VK} {i : Int} (h : Q (.bl false) H) : rIsi K [.int i, .ty "str"] H Q := isi (.ty _) (.base (.int i)) (kit_ty (by decide +kernel)) h
theorem isi_il {K : PySem.W.Frag} {H : Hp} {Q : VK} {i : Int} (h : Q (.bl false) H) : rIsi K [.int i, .ty "list"] H Q := isi (.ty _) (.base (.int i)) (kit_ty (by decide +kernel)) h
theorem isi_it {K : PySem.W.Frag} {H : Hp} {Q : VK} {i : Int} (h : Q (.bl false) H) : rIsi K [.int i, .ty "tuple"] H Q := isi (.ty _) (.base (.int i)) (kit_ty (by decide +kernel)) h
theorem isi_si {K : PySem.W.Frag} {H : Hp} {Q : VK} {z : Str} (h : Q (.bl false) H) : rIsi K [.str z, .ty "int"] H Q := isi (.ty _) (.base (.str z)) (kit_ty (by decide +kernel)) h
theorem isi_sb {K : PySem.W.Frag} {H : Hp} {Q : VK} {z : Str} (h : Q (.bl false) H) : rIsi K [.str z, .ty "bool"] H Q := isi (.ty _) (.base (.str z)) (kit_ty (by decide +kernel)) h
theorem isi_ss {K : PySem.W.Frag} {H : Hp} {Q : VK} {z : Str} (h : Q (.bl true) H) : rIsi K [.str z, .ty "str"] H Q := isi (.ty _) (.base (.str z)) (kit_ty (by decide +kernel)) h
theorem isi_sl {K : PySem.W.Frag} {H : Hp} {Q : VK} {z : Str} (h : Q (.bl false) H) : rIsi K [.str z, .ty "list"] H Q := isi (.ty _) (.base (.str z)) (kit_ty (by decide +kernel)) h
theorem isi_st {K : PySem.W.Frag} {H : Hp} {Q : VK} {z : Str} (h : Q (.bl false) H) : rIsi K [.str z, .ty "tuple"] H Q := isi (.ty _) (.base (.str z)) (kit_ty (by decide +kernel)) h
theorem isi_bi {K : PySem.W.Frag} {H : Hp} {Q : VK} {z : Bool} (h : Q (.bl true) H) : rIsi K [.bl z, .ty "int"] H Q := isi (.ty _) (.base (.bl z)) (kit_ty (by decide +kernel)) h
theorem isi_bb {K : PySem.W.Frag} {H : Hp} {Q : VK} {z : Bool} (h : Q (.bl true) H) : rIsi K [.bl z, .ty "bool"] H Q := isi (.ty _) (.base (.bl z)) (kit_ty (by decide +kernel)) h
theorem isi_bs {K : PySem.W.Frag} {H : Hp} {Q : VK} {z : Bool} (h : Q (.bl false) H) : rIsi K [.bl z, .ty "str"] H Q := isi (.ty _) (.base (.bl z)) (kit_ty (by decide +kernel)) h
theorem isi_bl {K : PySem.W.Frag} {H : Hp} {Q : VK} {z : Bool} (h : Q (.bl false) H) : rIsi K [.bl z, .ty "list"] H Q := isi (.ty _) (.base (.bl z)) (kit_ty (by decide +kernel)) h
theorem isi_bt {K : PySem.W.Frag} {H : Hp} {Q : VK} {z : Bool} (h : Q (.bl false) H) : rIsi K [.bl z, .ty "tuple"] H Q := isi (.ty _) (.base (.bl z)) (kit_ty (by decide +kernel)) h
theorem isi_Li {K : PySem.W.Frag} {H : Hp} {Q : VK} {a : Addr} {xs : List V} (hs : SqL K H a xs) (h : Q (.bl false) H) : rIsi K [.ref a, .ty "int"] H Q := isi (.ty _) (tyX_L hs) (kit_ty (by decide +kernel)) h
theorem isi_Lb {K : PySem.W.Frag} {H : Hp} {Q : VK} {a : Addr} {xs : List V} (hs : SqL K H a xs) (h : Q (.bl false) H) : rIsi K [.ref a, .ty "bool"] H Q := isi (.ty _) (tyX_L hs) (kit_ty (by decide +kernel)) h
theorem isi_Ls {K : PySem.W.Frag} {H : Hp} {Q : VK} {a : Addr} {xs : List V} (hs : SqL K H a xs) (h : Q (.bl false) H) : rIsi K [.ref a, .ty "str"] H Q := isi (.ty _) (tyX_L hs) (kit_ty (by decide +kernel)) h
theorem isi_Ll {K : PySem.W.Frag} {H : Hp} {Q : VK} {a : Addr} {xs : List V} (hs : SqL K H a xs) (h : Q (.bl true) H) : rIsi K [.ref a, .ty "list"] H Q := isi (.ty _) (tyX_L hs) (kit_ty (by decide +kernel)) h
theorem isi_Lt {K : PySem.W.Frag} {H : Hp} {Q : VK} {a : Addr} {xs : List V} (hs : SqL K H a xs) (h : Q (.bl false) H) : rIsi K [.ref a, .ty "tuple"] H Q := isi (.ty _) (tyX_L hs) (kit_ty (by decide +kernel)) h
theorem isi_Ti {K : PySem.W.Frag} {H : Hp} {Q : VK} {a : Addr} {xs : List V} (hs : SqT K H a xs) (h : Q (.bl false) H) : rIsi K [.ref a, .ty "int"] H Q := isi (.ty _) (tyX_T hs) (kit_ty (by decide +kernel)) h
theorem isi_Tb {K : PySem.W.Frag} {H : Hp} {Q : VK} {a : Addr} {xs : List V} (hs : SqT K H a xs) (h : Q (.bl false) H) : rIsi K [.ref a, .ty "bool"] H Q := isi (.ty _) (tyX_T hs) (kit_ty (by decide +kernel)) h
theorem isi_Ts {K : PySem.W.Frag} {H : Hp} {Q : VK} {a : Addr} {xs : List V} (hs : SqT K H a xs) (h : Q (.bl false) H) : rIsi K [.ref a, .ty "str"] H Q := isi (.ty _) (tyX_T hs) (kit_ty (by decide +kernel)) h
theorem isi_Tl {K : PySem.W.Frag} {H : Hp} {Q : VK} {a : Addr} {xs : List V} (hs : SqT K H a xs) (h : Q (.bl false) H) : rIsi K [.ref a, .ty "list"] H Q := isi (.ty _) (tyX_T hs) (kit_ty (by decide +kernel)) h
theorem isi_Tt {K : PySem.W.Frag} {H : Hp} {Q : VK} {a : Addr} {xs : List V} (hs : SqT K H a xs) (h : Q (.bl true) H) : rIsi K [.ref a, .ty "tuple"] H Q := isi (.ty _) (tyX_T hs) (kit_ty (by decide +kernel)) h
/-- fields -/
theorem sfld {K : PySem.W.Frag} {H : Hp} {D : Ends} {σ : L2.St} {ta tv : TE} {f : Str} (h : tv σ H fun y H1 => ta σ H1 fun x H2 => ∃ a C dx fs, x = .ref a ∧ H2 a = some (.ins C dx fs) ∧ Cls K C ∧ NoAttr K C f ∧ fs.length < 1000 ∧ D.nx σ (upd H2 a (.ins C dx (putF f y fs)))) : sFld K ta tv f D σ H := h
theorem meth {H : Hp} {Q : VK} {σ : L2.St} {ta : TE} {C : Addr} {m : Str} {sp : Sp} {E : XK} {t : TA} (h : ta σ H fun x H1 => ∃ a dx fs, x = .ref a ∧ H1 a = some (.ins C dx fs) ∧ fs.lookup m = none ∧ t σ H1 fun vs H2 => CallK sp [] E (x :: vs) H2 Q) : tMeth C m sp [] E ta t σ H Q := h
theorem make {H : Hp} {Q : VK} {σ : L2.St} {C : Addr} {sp : Sp} {E : XK} {t : TA} (h : t σ H fun vs H1 => ∀ x dx, H1 x = none → H1 dx = none → dx ≠ x → sp (.ref x :: vs) (upd (upd H1 dx (.own x)) x (.ins C dx [])) (fun v H2 => v = .non ∧ Q (.ref x) H2) E) : tMake C sp [] E t σ H Q := by
  unfold tMake
  have e : ∀ vs : List V, vs ++ [] = vs := fun vs => List.append_nil vs
  simp only [e]
  exact h
theorem fld {K : PySem.W.Frag} {H : Hp} {Q : VK} {σ : L2.St} {ta : TE} {f : Str} (h : ta σ H fun x H1 => ∃ a C dx fs v, x = .ref a ∧ H1 a = some (.ins C dx fs) ∧ Cls K C ∧ NoAttr K C f ∧ fs.lookup f = some v ∧ Q v H1) : tFld K ta f σ H Q := h
theorem passLS {X : Cx} : ∀ σ, PassesAt (L2.CX X.prog X.w) X σ E0 := fun σ pins H s e s' I c => passL pins σ H s e s' I c
theorem prop {H : Hp} {Q : VK} {σ : L2.St} {ta : TE} {C : Addr} {sp : Sp} {E : XK} (h : ta σ H fun x H1 => ∃ a dx fs, x = .ref a ∧ H1 a = some (.ins C dx fs) ∧ sp [.ref a] H1 Q E) : tProp C sp [] E ta σ H Q := h
theorem callO {H : Hp} {Q : VK} {σ : L2.St} {tf : TE} {t : TA} {C : Addr} {sp : Sp} {E : L2.St → XK} (h : tf σ H fun y H1 => ∃ a, y = V.ref a ∧ t σ H1 fun vs H2 => (∃ dx fs, H2 a = some (.ins C dx fs)) ∧ sp (V.ref a :: vs) H2 Q (E σ)) : tCallOS C sp E tf t σ H Q := h
theorem methS {H : Hp} {Q : VK} {σ : L2.St} {ta : TE} {C : Addr} {m : Str} {sp : Sp} {E : L2.St → XK} {t : TA} (h : ta σ H fun x H1 => ∃ a dx fs, x = .ref a ∧ H1 a = some (.ins C dx fs) ∧ fs.lookup m = none ∧ t σ H1 fun vs H2 => sp (x :: vs) H2 Q (E σ)) : tMethS C m sp E ta t σ H Q := h
theorem callS {sp : Sp} {E : L2.St → XK} {t : TA} {σ : L2.St} {H : Hp} {Q : VK} (h : t σ H fun vs H1 => sp vs H1 Q (E σ)) : tCallS sp E t σ H Q := h
end
end Gx
/-! ### texts as lists of code points -/
namespace Gx
open PySem PySem.Spec PyProof.Rows L2 TL
def mkS (l : List Nat) : Str := ⟨l.toArray⟩
theorem mkS_len (l : List Nat) : (mkS l).length = l.length := by simp [mkS, Str.length]
theorem mkS_tl (l : List Nat) : (mkS l).cps.toList = l := rfl
theorem mkS_app (a b : List Nat) : mkS a ++ mkS b = mkS (a ++ b) := by
  refine ext_tl ?_
  rw [tl_append]
  rfl
theorem mkS_inj {a b : List Nat} : mkS a = mkS b ↔ a = b := ⟨fun h => by
  have := congrArg (fun x => x.cps.toList) h
  exact this, fun h => by rw [h]⟩
theorem mkS_of (x : Str) : x = mkS x.cps.toList := rfl
theorem ofS (s : String) : Str.ofString s = mkS (s.toList.map Char.toNat) := ext_tl (tl_ofString s)
theorem sIx_int (n d : Nat) {i : Int} (h : 0 ≤ i) : HT.sIx n d (some i) = min i.toNat n := by
  have e : i = ((i.toNat : Nat) : Int) := by omega
  rw [e, HT.sIx_nat, Int.toNat_natCast]
theorem cut_A (l : List Nat) {j : Int} (h : 0 ≤ j) : cutS (mkS l) none (some j) = mkS (l.take j.toNat) := by
  show mkS (((mkS l).cps.toList.drop _).take _) = _
  rw [mkS_tl, mkS_len, HT.sIx_none, sIx_int _ _ h, List.drop_zero, Nat.sub_zero, ← List.take_eq_take_min]
theorem cut_B (l : List Nat) {i : Int} (h : 0 ≤ i) : cutS (mkS l) (some i) none = mkS (l.drop i.toNat) := by
  show mkS (((mkS l).cps.toList.drop _).take _) = _
  rw [mkS_tl, mkS_len, HT.sIx_none, sIx_int _ _ h]
  congr 1
  rw [List.take_of_length_le (by rw [List.length_drop]; omega)]
  by_cases c : i.toNat ≤ l.length
  · rw [Nat.min_eq_left c]
  · rw [Nat.min_eq_right (by omega), List.drop_length, List.drop_eq_nil_of_le (by omega)]
theorem cut_C (l : List Nat) {i j : Int} (h : 0 ≤ i) (h' : 0 ≤ j) : cutS (mkS l) (some i) (some j) = mkS ((l.take j.toNat).drop i.toNat) := by
  show mkS (((mkS l).cps.toList.drop _).take _) = _
  rw [mkS_tl, mkS_len, sIx_int _ _ h, sIx_int _ _ h']
  congr 1
  rw [List.drop_take]
  by_cases c : i.toNat ≤ l.length
  · rw [Nat.min_eq_left c]
    by_cases d : j.toNat ≤ l.length
    · rw [Nat.min_eq_left d]
    · rw [Nat.min_eq_right (by omega), List.take_of_length_le (by rw [List.length_drop]; omega), List.take_of_length_le (by rw [List.length_drop]; omega)]
  · rw [Nat.min_eq_right (a := i.toNat) (by omega), List.drop_length, List.drop_eq_nil_of_le (by omega)]
    simp
section
variable {σ : L2.St} {H : Hp} {Q : VK} {te to : TE} {K : PySem.W.Frag}
theorem conE {x y : Str} (e : x = y) (h : Q (.str y) H) : tC (.str x) σ H Q := by rw [e]; exact h
theorem sA {l : List Nat} {j : Int} (h0 : 0 ≤ j) (c : l.length ≤ 16777216) (h : Q (.str (mkS (l.take j.toNat))) H) : rSlS (.str (mkS l)) none (some j) H Q := ⟨_, rfl, by rw [mkS_len, sizeLine_eq]; exact c, by rw [cut_A l h0]; exact h⟩
theorem sB {l : List Nat} {j : Int} (h0 : 0 ≤ j) (c : l.length ≤ 16777216) (h : Q (.str (mkS (l.drop j.toNat))) H) : rSlS (.str (mkS l)) (some j) none H Q := ⟨_, rfl, by rw [mkS_len, sizeLine_eq]; exact c, by rw [cut_B l h0]; exact h⟩
theorem sC {l : List Nat} {i j : Int} (h0 : 0 ≤ i) (h1 : 0 ≤ j) (c : l.length ≤ 16777216) (h : Q (.str (mkS ((l.take j.toNat).drop i.toNat))) H) : rSlS (.str (mkS l)) (some i) (some j) H Q := ⟨_, rfl, by rw [mkS_len, sizeLine_eq]; exact c, by rw [cut_C l h0 h1]; exact h⟩
theorem addM {a b : List Nat} (c : a.length + b.length ≤ 16777216) (h : Q (.str (mkS (a ++ b))) H) : rAddS (.str (mkS a)) (.str (mkS b)) H Q := ⟨_, _, rfl, rfl, by rw [mkS_len, mkS_len, sizeLine_eq]; exact c, by rw [mkS_app]; exact h⟩
theorem lenM {l : List Nat} (c : l.length ≤ 16777216) (h : Q (.int l.length) H) : rLenS [.str (mkS l)] H Q := ⟨_, rfl, by rw [mkS_len, sizeLine_eq]; exact c, by rw [mkS_len]; exact h⟩
theorem eqM {a b : List Nat} (h : Q (.bl (decide (a = b))) H) : rEq (.str (mkS a)) (.str (mkS b)) H Q := ⟨rfl, by
  rw [show decide (V.str (mkS a) = V.str (mkS b)) = decide (a = b) from by simp [mkS_inj]]
  exact h⟩
theorem neM {a b : List Nat} (h : Q (.bl (!decide (a = b))) H) : rNe (.str (mkS a)) (.str (mkS b)) H Q := ⟨rfl, by
  rw [show decide (V.str (mkS a) = V.str (mkS b)) = decide (a = b) from by simp [mkS_inj]]
  exact h⟩
theorem ixM {l : List Nat} {i : Int} (h0 : 0 ≤ i) (h1 : i < l.length) (c : l.length ≤ 16777216) (h : Q (.str (mkS [l.getD i.toNat 0])) H) : rIxS (.str (mkS l)) (.int i) H Q := by
  have e : i = ((i.toNat : Nat) : Int) := by omega
  have h2 : i.toNat < l.length := by omega
  refine ⟨_, i, l.getD i.toNat 0, rfl, rfl, by rw [mkS_len, sizeLine_eq]; exact c, ?_, h⟩
  rw [mkS_tl, e]
  refine atI_nat ?_
  rw [Int.toNat_natCast, List.getElem?_eq_getElem h2, List.getD_eq_getElem?_getD, List.getElem?_eq_getElem h2]
  rfl
/-- sep.join(xs) -/
def rJoin (K : PySem.W.Frag) : V → List V → Hp → VK → Prop := fun x xs H Q => ∃ a p, ∃ ys : List Str, x = .str a ∧ xs = [.ref p] ∧ (SqL K H p (ys.map V.str) ∨ SqT K H p (ys.map V.str)) ∧
      (ys.map (·.length)).sum + ys.length * a.length ≤ 16777216 ∧ Q (.str (Txt.join a ys)) H
theorem m1 {r : V → List V → Hp → VK → Prop} (h : to σ H fun x H1 => (∃ a, x = .str a) ∧ te σ H1 fun y H2 => r x [y] H2 Q) : tM1 r to te σ H Q := h
theorem isS {z : Str} {A : Prop} (h : A) : (∃ a, V.str z = .str a) ∧ A := ⟨⟨z, rfl⟩, h⟩
theorem joinL_nil : ∀ ls : List (List Nat), joinL [] ls = ls.flatten
  | [] => rfl
  | [p] => by simp [joinL]
  | p :: q :: r => by
    show p ++ ([] ++ joinL [] (q :: r)) = _
    rw [joinL_nil (q :: r)]
    rfl
theorem sum_len : ∀ ls : List (List Nat), ((ls.map mkS).map (·.length)).sum = ls.flatten.length
  | [] => rfl
  | p :: r => by
    rw [List.map_cons, List.map_cons, List.sum_cons, sum_len r, mkS_len, List.flatten_cons, List.length_append]
/-- ''.join(xs) -/
theorem join0 {ls : List (List Nat)} {p : Addr} (e : SqL K H p ((ls.map mkS).map V.str)) (c : ls.flatten.length ≤ 16777216) (h : Q (.str (mkS ls.flatten)) H) : rJoin K (.str (mkS [])) [.ref p] H Q := by
  refine ⟨mkS [], p, ls.map mkS, rfl, rfl, .inl e, ?_, ?_⟩
  · rw [sum_len, mkS_len]
    simpa using c
  · rw [show Txt.join (mkS []) (ls.map mkS) = mkS ls.flatten from ?_]
    · exact h
    · refine ext_tl ?_
      rw [join_eq, tl_join, List.map_map]
      show joinL [] (ls.map (fun l => l)) = ls.flatten
      rw [List.map_id', joinL_nil]
end
section
variable {X : Cx} {o e : Expr} {to te : TE} {pos apos : Pos}
theorem pe_joinG (ho : PE X o to) (he : PE X e te) (hs : starEach [e] X.env = [(false, eval e X.env)] := by rfl) (hbase : attributeBase o "join" X.env (eval o X.env) = eval o X.env := by rfl) (hline : (apos.endLine == pos.line) = true := by rfl) :
    PE X (.Call (.Attribute o "join" apos) [e] [] pos) (tM1 (rJoin X.K) to te) := pe_join ho he hs hbase hline
end
end Gx
/-! ### nested data -/
namespace Gx
open PySem PySem.Spec PyProof.Rows L2
section
variable {K : PySem.W.Frag} {H H' : Hp}
theorem _root_.L2.Same.seqT {a : Addr} {xs : List V} (e : Same H H') (h : SqT K H a xs) : SqT K H' a xs := by
  rcases h with (h | ⟨o, h⟩) | h
  · exact .inl (.inl (e _ _ h))
  · exact .inl (.inr ⟨o, e _ _ h⟩)
  · exact .inr h
mutual
theorem dp_same (e : Same H H') : ∀ (d : PyData) (v : V), Dp K H v d → Dp K H' v d
  | .none, _, h => by cases h; exact .non
  | .bool _, _, h => by cases h; exact .bl _
  | .int _, _, h => by cases h; exact .int _
  | .str _, _, h => by cases h; exact .str _
  | .list ds, _, h => by
    cases h with
    | lst hs ha => exact .lst (e.seq hs) (dpAll_same e ds _ ha)
  | .tuple ds, _, h => by
    cases h with
    | tup hs ha => exact .tup (e.seqT hs) (dpAll_same e ds _ ha)
  | .dict _, _, h => by cases h
theorem dpAll_same (e : Same H H') : ∀ (ds : List PyData) (vs : List V), DpAll K H vs ds → DpAll K H' vs ds
  | [], _, h => by cases h; exact .nil
  | d :: ds, _, h => by
    cases h with
    | cons h1 h2 => exact .cons (dp_same e d _ h1) (dpAll_same e ds _ h2)
end
mutual
/-- no list within -/
def noL : PyData → Bool
  | .none | .bool _ | .int _ | .str _ => true
  | .tuple xs => noLs xs
  | .list _ | .dict _ => false
def noLs : List PyData → Bool
  | [] => true
  | x :: xs => noL x && noLs xs
end
/-- all tuples stay -/
def Tups (K : PySem.W.Frag) (H H' : Hp) : Prop := ∀ a xs, SqT K H a xs → SqT K H' a xs
theorem Tups.of (e : Same H H') : Tups K H H' := fun _ _ h => e.seqT h
theorem Tups.upd {p : Addr} {xs ys : List V} (h : H p = some (.lst xs)) : Tups K H (upd H p (.lst ys)) := fun a us q => by
  rcases q with (q | ⟨o, q⟩) | q
  · exact .inl (.inl (by rw [upd_ne (ne_of q h (by intro z; cases z))]; exact q))
  · exact .inl (.inr ⟨o, by rw [upd_ne (ne_of q h (by intro z; cases z))]; exact q⟩)
  · exact .inr q
mutual
theorem dp_tups (e : Tups K H H') : ∀ (d : PyData) (v : V), noL d = true → Dp K H v d → Dp K H' v d
  | .none, _, _, h => by cases h; exact .non
  | .bool _, _, _, h => by cases h; exact .bl _
  | .int _, _, _, h => by cases h; exact .int _
  | .str _, _, _, h => by cases h; exact .str _
  | .list ds, _, n, h => by simp [noL] at n
  | .tuple ds, _, n, h => by
    cases h with
    | tup hs ha => exact .tup (e _ _ hs) (dpAll_tups e ds _ (by simpa [noL] using n) ha)
  | .dict _, _, _, h => by cases h
theorem dpAll_tups (e : Tups K H H') : ∀ (ds : List PyData) (vs : List V), noLs ds = true → DpAll K H vs ds → DpAll K H' vs ds
  | [], _, _, h => by cases h; exact .nil
  | d :: ds, _, n, h => by
    have n' : noL d = true ∧ noLs ds = true := by simpa [noLs] using n
    cases h with
    | cons h1 h2 => exact .cons (dp_tups e d _ n'.1 h1) (dpAll_tups e ds _ n'.2 h2)
end
theorem dpAll_len : ∀ {vs : List V} {ds : List PyData}, DpAll K H vs ds → vs.length = ds.length
  | _, _, .nil => rfl
  | _, _, .cons _ t => by rw [List.length_cons, List.length_cons, dpAll_len t]
theorem dpAll_app : ∀ {vs ws : List V} {ds es : List PyData}, DpAll K H vs ds → DpAll K H ws es → DpAll K H (vs ++ ws) (ds ++ es)
  | _, _, _, _, .nil, h => h
  | _, _, _, _, .cons a t, h => .cons a (dpAll_app t h)
theorem dpAll_get : ∀ {vs : List V} {ds : List PyData} {i : Nat} {v : V}, DpAll K H vs ds → vs[i]? = some v → ∃ d, ds[i]? = some d ∧ Dp K H v d
  | _, _, _, _, .nil, h => by simp at h
  | _, _, 0, _, .cons a t, h => by
    simp at h
    subst h
    exact ⟨_, rfl, a⟩
  | _, _, i + 1, _, .cons a t, h => dpAll_get (i := i) t (by simpa using h)
theorem dpAll_ints : ∀ (ns : List Int), DpAll K H (ns.map V.int) (ns.map PyData.int)
  | [] => .nil
  | n :: r => .cons (.int n) (dpAll_ints r)
end
mutual
/-- what _law_kind tells of a datum -/
def kindD : PyData → PyData
  | .none => .tuple [.str (mkS [110, 111, 110, 101])]
  | .bool b => .tuple [.str (mkS [116, 114, 117, 116, 104]), .str (Str.ofString (if b then "True" else "False"))]
  | .int i => .tuple [.str (mkS [110, 117, 109, 98, 101, 114]), .int i]
  | .str x => .tuple [.str (mkS [116, 101, 120, 116]), .str x]
  | .list xs => .tuple (.str (mkS [108, 105, 115, 116]) :: kindAll xs)
  | .tuple xs => .tuple (.str (mkS [116, 117, 112, 108, 101]) :: kindAll xs)
  | .dict _ => .tuple [.str (mkS [111, 116, 104, 101, 114])]
def kindAll : List PyData → List PyData
  | [] => []
  | x :: xs => kindD x :: kindAll xs
end
theorem kindAll_app : ∀ xs ys : List PyData, kindAll (xs ++ ys) = kindAll xs ++ kindAll ys
  | [], _ => by simp [kindAll]
  | x :: xs, ys => by rw [List.cons_append, kindAll, kindAll, kindAll_app xs ys, List.cons_append]
theorem kindAll_len : ∀ xs : List PyData, (kindAll xs).length = xs.length
  | [] => rfl
  | x :: xs => by rw [kindAll, List.length_cons, List.length_cons, kindAll_len xs]
theorem kindAll_get : ∀ (xs : List PyData) (i : Nat), (kindAll xs)[i]? = xs[i]?.map kindD
  | [], i => by simp [kindAll]
  | x :: xs, 0 => by simp [kindAll]
  | x :: xs, i + 1 => by
    rw [kindAll]
    simpa using kindAll_get xs i
mutual
theorem noL_kind : ∀ d : PyData, noL (kindD d) = true
  | .none => rfl
  | .bool _ => rfl
  | .int _ => rfl
  | .str _ => rfl
  | .list xs => by simp only [kindD, noL, noLs, Bool.true_and]; exact noLs_kind xs
  | .tuple xs => by simp only [kindD, noL, noLs, Bool.true_and]; exact noLs_kind xs
  | .dict _ => rfl
theorem noLs_kind : ∀ ds : List PyData, noLs (kindAll ds) = true
  | [] => rfl
  | d :: ds => by rw [kindAll, noLs, noL_kind d, noLs_kind ds]; rfl
end
theorem noLs_take : ∀ (ds : List PyData) (i : Nat), noLs ds = true → noLs (ds.take i) = true
  | [], i, _ => by simp [noLs]
  | d :: ds, 0, _ => rfl
  | d :: ds, i + 1, h => by
    have h' : noL d = true ∧ noLs ds = true := by simpa [noLs] using h
    rw [List.take_succ_cons, noLs, h'.1, noLs_take ds i h'.2]
    rfl
mutual
/-- data that can be told and compared: texts of code points, no dict, lists of at most 100000 -/
def okD : PyData → Bool
  | .none | .bool _ | .int _ => true
  | .str x => PyData.strOk x
  | .list xs | .tuple xs => decide (xs.length ≤ 100000) && okDs xs
  | .dict _ => false
def okDs : List PyData → Bool
  | [] => true
  | x :: xs => okD x && okDs xs
end
theorem okDs_get : ∀ {xs : List PyData} {i : Nat} {d : PyData}, okDs xs = true → xs[i]? = some d → okD d = true
  | [], _, _, _, h => by simp at h
  | x :: xs, 0, _, k, h => by
    have k' : okD x = true ∧ okDs xs = true := by simpa [okDs] using k
    simp at h
    subst h
    exact k'.1
  | x :: xs, i + 1, _, k, h => by
    have k' : okD x = true ∧ okDs xs = true := by simpa [okDs] using k
    exact okDs_get (i := i) k'.2 (by simpa using h)
theorem depth_get : ∀ {xs : List PyData} {i : Nat} {d : PyData}, xs[i]? = some d → PyData.depth d ≤ PyData.depthAll xs
  | [], _, _, h => by simp at h
  | x :: xs, 0, _, h => by
    simp at h
    subst h
    exact Nat.le_max_left _ _
  | x :: xs, i + 1, d, h => by
    have := depth_get (xs := xs) (i := i) (d := d) (by simpa using h)
    exact Nat.le_trans this (Nat.le_max_right _ _)
mutual
theorem can_kind : ∀ d : PyData, okD d = true → PyData.canLay0 (kindD d) = true
  | .none, _ => by simp [kindD, PyData.canLay0, PyData.canLayAll0, PyData.strOk, mkS]
  | .bool b, _ => by cases b <;> (simp [kindD, PyData.canLay0, PyData.canLayAll0, PyData.strOk, mkS]; decide +kernel)
  | .int i, _ => by simp [kindD, PyData.canLay0, PyData.canLayAll0, PyData.strOk, mkS]
  | .str x, h => by
    have h' : PyData.strOk x = true := by simpa [okD] using h
    simp [kindD, PyData.canLay0, PyData.canLayAll0, h']
    simp [PyData.strOk, mkS]
  | .list xs, h => by
    have h' : xs.length ≤ 100000 ∧ okDs xs = true := by simpa [okD] using h
    simp only [kindD, PyData.canLay0, PyData.canLayAll0, can_kinds xs h'.2]
    simp [PyData.strOk, mkS]
  | .tuple xs, h => by
    have h' : xs.length ≤ 100000 ∧ okDs xs = true := by simpa [okD] using h
    simp only [kindD, PyData.canLay0, PyData.canLayAll0, can_kinds xs h'.2]
    simp [PyData.strOk, mkS]
  | .dict _, h => by simp [okD] at h
theorem can_kinds : ∀ ds : List PyData, okDs ds = true → PyData.canLayAll0 (kindAll ds) = true
  | [], _ => rfl
  | d :: ds, h => by
    have h' : okD d = true ∧ okDs ds = true := by simpa [okDs] using h
    simp only [kindAll, PyData.canLayAll0, can_kind d h'.1, can_kinds ds h'.2, Bool.and_self]
end
mutual
theorem depth_kind : ∀ d : PyData, PyData.depth (kindD d) ≤ PyData.depth d + 1
  | .none => by simp [kindD, PyData.depth, PyData.depthAll]
  | .bool _ => by simp [kindD, PyData.depth, PyData.depthAll]
  | .int _ => by simp [kindD, PyData.depth, PyData.depthAll]
  | .str _ => by simp [kindD, PyData.depth, PyData.depthAll]
  | .list xs => by
    have := depth_kinds xs
    simp only [kindD, PyData.depth, PyData.depthAll]
    omega
  | .tuple xs => by
    have := depth_kinds xs
    simp only [kindD, PyData.depth, PyData.depthAll]
    omega
  | .dict _ => by simp [kindD, PyData.depth, PyData.depthAll]
theorem depth_kinds : ∀ ds : List PyData, PyData.depthAll (kindAll ds) ≤ PyData.depthAll ds + 1
  | [] => by simp [kindAll, PyData.depthAll]
  | d :: ds => by
    have h1 := depth_kind d
    have h2 := depth_kinds ds
    simp only [kindAll, PyData.depthAll]
    omega
end
theorem shaped_kind {d : PyData} (h : okD d = true) (n : PyData.depth d ≤ 60) : SeqAt.shaped (kindD d) = true := by
  unfold SeqAt.shaped
  rw [can_kind d h, Bool.true_and]
  have := depth_kind d
  exact decide_eq_true (by omega)
theorem eqv_kind {d : PyData} (h : okD d = true) : PyData.eqv (kindD d) (kindD d) = true := SeqAt.eqv_refl _ (can_kind d h)
def rStrB : List V → Hp → VK → Prop := fun xs H Q => ∃ b, xs = [.bl b] ∧ Q (.str (Str.ofString (if b then "True" else "False"))) H
theorem cr_strB {X : Cx} : CallR X (.type "str") rStrB := by
  intro pins s σ H xs us Q I r h
  obtain ⟨b, rfl, q⟩ := h
  obtain ⟨u, rfl, r1⟩ := vals1 r
  cases r1
  refine PySem.P.str_of_bool ⟨.str _, H, I.tok _, ⟨_, rfl⟩, ?_⟩
  cases b <;> exact q
theorem strB {H : Hp} {Q : VK} {b : Bool} (h : Q (.str (Str.ofString (if b then "True" else "False"))) H) : rStrB [.bl b] H Q := ⟨b, rfl, h⟩
/-- tuple(a list) -/
def rTupL (K : PySem.W.Frag) : List V → Hp → VK → Prop := fun xs H Q => ∃ p ys, xs = [.ref p] ∧ ((SqL K H p ys ∧ ∀ l, H l = none → Q (.ref l) (upd H l (.tup ys))) ∨ (SqT K H p ys ∧ Q (.ref p) H))
theorem cr_tupL {X : Cx} : CallR X (.type "tuple") (rTupL X.K) := call_tuple_of
theorem tupL {K : PySem.W.Frag} {H : Hp} {Q : VK} {p : Addr} {ys : List V} (h : SqL K H p ys) (q : ∀ l, H l = none → Q (.ref l) (upd H l (.tup ys))) : rTupL K [.ref p] H Q := ⟨p, ys, rfl, .inl ⟨h, q⟩⟩
theorem tupT {K : PySem.W.Frag} {H : Hp} {Q : VK} {p : Addr} {ys : List V} (h : SqT K H p ys) (q : Q (.ref p) H) : rTupL K [.ref p] H Q := ⟨p, ys, rfl, .inr ⟨h, q⟩⟩
theorem catT {K : PySem.W.Frag} {H : Hp} {Q : VK} {a b : Addr} {xs ys : List V} (ha : SqT K H a xs) (hb : SqT K H b ys) (ne : xs ≠ []) (l : xs.length + ys.length ≤ 16777216) (q0 : ys = [] → Q (.ref a) H) (q : ys ≠ [] → ∀ p, H p = none → Q (.ref p) (upd H p (.tup (xs ++ ys)))) : rCatT K (.ref a) (.ref b) H Q :=
  ⟨a, b, xs, ys, rfl, rfl, ha, hb, ne, by rw [sizeLine_eq]; exact l, q0, q⟩
/-- (word,) + tuple(..): the two ways in one -/
theorem catT' {K : PySem.W.Frag} {H : Hp} {Q : VK} {a b : Addr} {xs ys : List V} (ha : SqT K H a xs) (hb : SqT K H b ys) (ne : xs ≠ []) (l : xs.length + ys.length ≤ 16777216) (q : ∀ p H', Same H H' → SqT K H' p (xs ++ ys) → Q (.ref p) H') : rCatT K (.ref a) (.ref b) H Q :=
  catT ha hb ne l (fun e => q a H (Same.refl H) (by rw [e, List.append_nil]; exact ha)) (fun _ p np => q p _ (ext1 np).same (SqT.of upd_same))
theorem atI_of {xs : List V} {i : Int} {k : Nat} {v : V} (e : i = k) (h : xs[k]? = some v) : atI xs i = some v := by rw [e]; exact atI_nat h
theorem cutV_A (l : List V) {j : Int} (h : 0 ≤ j) : cutV l none (some j) = l.take j.toNat := by
  unfold cutV
  rw [HT.sIx_none, sIx_int _ _ h, List.drop_zero, Nat.sub_zero, ← List.take_eq_take_min]
theorem cutV_B (l : List V) {i : Int} (h : 0 ≤ i) : cutV l (some i) none = l.drop i.toNat := by
  unfold cutV
  rw [HT.sIx_none, sIx_int _ _ h]
  rw [List.take_of_length_le (by rw [List.length_drop]; omega)]
  by_cases c : i.toNat ≤ l.length
  · rw [Nat.min_eq_left c]
  · rw [Nat.min_eq_right (by omega), List.drop_length, List.drop_eq_nil_of_le (by omega)]
theorem cutV_C (l : List V) {i j : Int} (h : 0 ≤ i) (h' : 0 ≤ j) : cutV l (some i) (some j) = (l.take j.toNat).drop i.toNat := by
  unfold cutV
  rw [sIx_int _ _ h, sIx_int _ _ h', List.drop_take]
  by_cases c : i.toNat ≤ l.length
  · rw [Nat.min_eq_left c]
    by_cases d : j.toNat ≤ l.length
    · rw [Nat.min_eq_left d]
    · rw [Nat.min_eq_right (by omega), List.take_of_length_le (by rw [List.length_drop]; omega), List.take_of_length_le (by rw [List.length_drop]; omega)]
  · rw [Nat.min_eq_right (a := i.toNat) (by omega), List.drop_length, List.drop_eq_nil_of_le (by omega)]
    simp
theorem dpAll_take {K : PySem.W.Frag} {H : Hp} : ∀ {vs : List V} {ds : List PyData} (n : Nat), DpAll K H vs ds → DpAll K H (vs.take n) (ds.take n)
  | _, _, 0, _ => .nil
  | _, _, _ + 1, .nil => .nil
  | _, _, n + 1, .cons a t => .cons a (dpAll_take n t)
theorem dpAll_drop {K : PySem.W.Frag} {H : Hp} : ∀ {vs : List V} {ds : List PyData} (n : Nat), DpAll K H vs ds → DpAll K H (vs.drop n) (ds.drop n)
  | _, _, 0, h => h
  | _, _, _ + 1, .nil => .nil
  | _, _, n + 1, .cons _ t => dpAll_drop n t
/-- a datum is appended -/
theorem dpAll_snoc {K : PySem.W.Frag} {H : Hp} {p : Addr} {vs : List V} {v : V} {ds : List PyData} {d : PyData} (e : H p = some (.lst vs)) (h : DpAll K H vs ds) (n : noLs ds = true) (hv : Dp K H v d) (nd : noL d = true) :
    DpAll K (upd H p (.lst (vs ++ [v]))) (vs ++ [v]) (ds ++ [d]) :=
  dpAll_app (dpAll_tups (Tups.upd e) _ _ n h) (.cons (dp_tups (Tups.upd e) _ _ nd hv) .nil)
/-- code points -/
def Cp (l : List Nat) : Prop := ∀ c ∈ l, c < 1114112
theorem Cp.app {a b : List Nat} (h : Cp a) (g : Cp b) : Cp (a ++ b) := fun c hc => (List.mem_append.mp hc).elim (h c) (g c)
theorem Cp.take {a : List Nat} (h : Cp a) (n : Nat) : Cp (a.take n) := fun c hc => h c (List.mem_of_mem_take hc)
theorem Cp.drop {a : List Nat} (h : Cp a) (n : Nat) : Cp (a.drop n) := fun c hc => h c (List.mem_of_mem_drop hc)
theorem Cp.ok {a : List Nat} (h : Cp a) : PyData.strOk (mkS a) = true := by
  unfold PyData.strOk mkS
  simp only [List.all_toArray, List.all_eq_true, decide_eq_true_eq]
  exact h
theorem Cp.okD {a : List Nat} (h : Cp a) : okD (.str (mkS a)) = true := by
  rw [Gx.okD]
  exact h.ok
theorem sortI {K : PySem.W.Frag} {H : Hp} {Q : VK} {a : Addr} {ns : List Int} (e : SqL K H a (ns.map V.int)) (h : ∀ (ns' : List Int) p H1, ns'.Perm ns → ns'.Pairwise (· ≤ ·) → Ext1 H H1 p (.lst (ns'.map V.int)) → Q (.ref p) H1) : rSortedI K [.ref a] H Q :=
  ⟨a, ns, rfl, e, fun ns' p pm pw np => h ns' p _ pm pw (ext1 np)⟩
end Gx
local macro_rules | `(tactic| walk_at "side") => `(tactic| first | assumption | omega | exact Gx.cmulR (by omega) (by omega) | exact Gx.cmulL (by omega) (by omega) | exact Gx.cdiv (by omega) (by omega) | exact Gx.cpow (by omega) (by omega) (by omega) | exact Gx.line (by omega) | exact Gx.lineL (by omega) | (simp only [List.length_append, List.length_take, List.length_drop, List.length_cons, List.length_nil, List.length_map, List.length_range, List.length_reverse]; omega) | exact Int.emod_nonneg _ (by omega) | exact Int.emod_lt_of_pos _ (by omega))
local macro_rules | `(tactic| walk_at "hp") => `(tactic| first | assumption | exact upd_same | exact SqL.of (by assumption) | exact SqT.of (by assumption) | exact SqL.of upd_same | exact SqT.of upd_same)
local macro_rules | `(tactic| walk_at "g1") => `(tactic| first
  | with_reducible refine Gx.seq ?_ | with_reducible refine Gx.nx ?_ | with_reducible refine Gx.asg ?_ | with_reducible refine Gx.op ?_
  | ((with_reducible refine' Gx.var ?ka ?kb); (case ka => exact rfl))
  | walk_at "con"
  | with_reducible refine Gx.con ?_ | with_reducible refine Gx.i0 ?_
  | ((with_reducible refine' Gx.i1 ?ka ?kb); (case ka => walk_at "side"))
  | with_reducible refine Gx.eqM ?_ | with_reducible refine Gx.neM ?_
  | with_reducible refine Gx.eqI ?_ | with_reducible refine Gx.eqS ?_ | with_reducible refine Gx.neI ?_ | with_reducible refine Gx.neS ?_ | with_reducible refine Gx.eqB ?_ | with_reducible refine Gx.isB ?_
  | ((with_reducible refine Gx.name ?_); try dsimp only [List.set])
  | with_reducible refine Gx.exb ?_ | with_reducible refine Gx.exi ?_ | with_reducible refine Gx.exs ?_ | with_reducible refine Gx.exr ?_
  | with_reducible refine Gx.test ?_ | with_reducible refine Gx.tB ?_ | with_reducible refine Gx.cb ?_ | with_reducible refine Gx.acons ?_ | with_reducible refine Gx.anil ?_
  | with_reducible refine Gx.call ?_ | with_reducible refine Gx.call0 ?_ | with_reducible refine Gx.callS ?_
  | with_reducible refine Gx.ifs ?_ | with_reducible refine Gx.ret ?_ | with_reducible refine Gx.rt ?_ | with_reducible refine Gx.next ?_ | with_reducible refine Gx.drop ?_
  | with_reducible refine Gx.not ?_ | with_reducible refine Gx.and ?_ | with_reducible refine Gx.or ?_ | with_reducible refine Gx.notV ?_ | with_reducible refine Gx.andV ?_ | with_reducible refine Gx.orV ?_ | with_reducible refine Gx.ifE ?_
  | with_reducible refine Gx.itT ?_ | with_reducible refine Gx.itF ?_ | with_reducible refine Gx.itNF ?_ | with_reducible refine Gx.itNT ?_ | with_reducible refine Gx.ittt ?_ | with_reducible refine Gx.itff ?_ | with_reducible refine Gx.itNtt ?_ | with_reducible refine Gx.itNff ?_
  | with_reducible refine Gx.sl ?_ | with_reducible refine Gx.nopart ?_ | with_reducible refine Gx.part ?_
  | ((with_reducible refine' Gx.sA ?ka ?kc ?kb); (case ka => walk_at "side"); (case kc => walk_at "side")) | ((with_reducible refine' Gx.sB ?ka ?kc ?kb); (case ka => walk_at "side"); (case kc => walk_at "side"))
  | ((with_reducible refine' Gx.sC ?ka ?kd ?kc ?kb); (case ka => walk_at "side"); (case kc => walk_at "side"); (case kd => walk_at "side"))
  | ((with_reducible refine' Gx.addM ?ka ?kb); (case ka => walk_at "side")) | ((with_reducible refine' Gx.lenM ?ka ?kb); (case ka => walk_at "side"))
  | ((with_reducible refine' Gx.ixM ?ka ?kd ?kc ?kb); (case ka => walk_at "side"); (case kc => walk_at "side"); (case kd => walk_at "side"))
  | with_reducible refine Gx.isNn ?_ | with_reducible refine Gx.isNi ?_ | with_reducible refine Gx.isNs ?_ | with_reducible refine Gx.isNb ?_ | with_reducible refine Gx.isNr ?_ | with_reducible refine Gx.notNn ?_ | with_reducible refine Gx.notNi ?_ | with_reducible refine Gx.notNs ?_ | with_reducible refine Gx.notNb ?_ | with_reducible refine Gx.notNr ?_
  | with_reducible refine Gx.sfld ?_ | with_reducible refine Gx.meth ?_ | with_reducible refine Gx.make ?_
  | with_reducible refine Gx.isi_ni ?_ | with_reducible refine Gx.isi_nb ?_ | with_reducible refine Gx.isi_ns ?_ | with_reducible refine Gx.isi_nl ?_ | with_reducible refine Gx.isi_nt ?_ | with_reducible refine Gx.isi_ii ?_
  | with_reducible refine Gx.isi_ib ?_ | with_reducible refine Gx.isi_is ?_ | with_reducible refine Gx.isi_il ?_ | with_reducible refine Gx.isi_it ?_ | with_reducible refine Gx.isi_si ?_ | with_reducible refine Gx.isi_sb ?_
  | with_reducible refine Gx.isi_ss ?_ | with_reducible refine Gx.isi_sl ?_ | with_reducible refine Gx.isi_st ?_ | with_reducible refine Gx.isi_bi ?_ | with_reducible refine Gx.isi_bb ?_ | with_reducible refine Gx.isi_bs ?_
  | with_reducible refine Gx.isi_bl ?_ | with_reducible refine Gx.isi_bt ?_ | ((with_reducible refine' Gx.isi_Li ?ka ?kb); (case ka => walk_at "hp")) | ((with_reducible refine' Gx.isi_Lb ?ka ?kb); (case ka => walk_at "hp")) | ((with_reducible refine' Gx.isi_Ls ?ka ?kb); (case ka => walk_at "hp")) | ((with_reducible refine' Gx.isi_Ll ?ka ?kb); (case ka => walk_at "hp"))
  | ((with_reducible refine' Gx.isi_Lt ?ka ?kb); (case ka => walk_at "hp")) | ((with_reducible refine' Gx.isi_Ti ?ka ?kb); (case ka => walk_at "hp")) | ((with_reducible refine' Gx.isi_Tb ?ka ?kb); (case ka => walk_at "hp")) | ((with_reducible refine' Gx.isi_Ts ?ka ?kb); (case ka => walk_at "hp")) | ((with_reducible refine' Gx.isi_Tl ?ka ?kb); (case ka => walk_at "hp")) | ((with_reducible refine' Gx.isi_Tt ?ka ?kb); (case ka => walk_at "hp"))
  | with_reducible refine Gx.strB ?_ | with_reducible refine Gx.prop ?_ | with_reducible refine Gx.callO ?_ | with_reducible refine Gx.methS ?_
  | with_reducible refine Gx.fld ?_ | with_reducible refine Gx.m1 ?_ | with_reducible refine Gx.isS ?_
  | ((with_reducible refine' Gx.slS ?ka ?kb); (case ka => walk_at "side"))
  | with_reducible refine Gx.un ?_ | with_reducible refine Gx.iu ?_
  | ((with_reducible refine' Gx.aug ?ka ?kb); (case ka => exact rfl)) | ((with_reducible refine Gx.ipi ?_); try dsimp only [List.set])
  | ((with_reducible refine' Gx.addS ?ka ?kb); (case ka => walk_at "side")) | ((with_reducible refine' Gx.lenS ?ka ?kb); (case ka => walk_at "side"))
  | ((with_reducible refine' Gx.lenLm ?ka ?kb); (case ka => walk_at "hp")) | ((with_reducible refine' Gx.lenTm ?ka ?kb); (case ka => walk_at "hp"))
  | ((with_reducible refine' Gx.ixLI ?ka ?kc ?kd ?kb); (case ka => walk_at "hp"); (case kc => walk_at "side"); (case kd => walk_at "side"))
  | ((with_reducible refine' Gx.ixT ?ka ?kc ?kb); (case ka => walk_at "hp"); (case kc => rfl))
  | ((with_reducible refine' Gx.lenL ?ka ?kb); (case ka => walk_at "hp")) | ((with_reducible refine' Gx.lenT ?ka ?kb); (case ka => walk_at "hp"))
  | with_reducible refine Gx.abs ?_ | with_reducible refine Gx.min2 ?_ | with_reducible refine Gx.max2 ?_ | with_reducible refine Gx.int1 ?_
  | with_reducible refine Gx.bm ?_ | with_reducible refine Gx.bm0 ?_ | ((with_reducible refine' Gx.tyL ?ka ?kb); (case ka => walk_at "hp"))
  | ((with_reducible refine' Gx.appI ?ka ?kc ?kb); (case ka => walk_at "hp"); (case kc => walk_at "side")) | ((with_reducible refine' Gx.appS ?ka ?kc ?kb); (case ka => walk_at "hp"); (case kc => walk_at "side")) | ((with_reducible refine' Gx.appR ?ka ?kc ?kb); (case ka => walk_at "hp"); (case kc => walk_at "side"))
  | ((with_reducible refine' Gx.app ?ka ?kc ?kb); (case ka => walk_at "hp"); (case kc => walk_at "side"))
  | with_reducible refine Gx.for_ ?_ | with_reducible refine Gx.rng1 ?_ | with_reducible refine Gx.rng2 ?_ | with_reducible refine Gx.ilst ?_ | with_reducible refine Gx.itup ?_ | with_reducible refine Gx.lc ?_ | with_reducible refine Gx.yes ?_
  | with_reducible refine Gx.tup ?_ | with_reducible refine Gx.lst ?_ | with_reducible refine Gx.retN ?_ | with_reducible refine Gx.brk ?_ | with_reducible refine Gx.cont ?_ | with_reducible refine Gx.bk ?_ | with_reducible refine Gx.ct ?_)
local macro_rules | `(tactic| walk_at "g") => `(tactic| repeat walk_at "g1")
namespace K45
open PySem PySem.Spec PyProof.Rows L2
def topS (i : Nat) : Stmt := PySem.Challenge.pw_textsputback_k45_several_splices.main.body.getD i (.Pass ⟨0, 0, 0, 0⟩)
theorem bt_ValueError : bootBuiltins "ValueError" = some (.type "ValueError") := by decide +kernel
theorem bt_abs : bootBuiltins "abs" = some (.builtin "abs") := by decide +kernel
theorem bt_bool : bootBuiltins "bool" = some (.type "bool") := by decide +kernel
theorem bt_int : bootBuiltins "int" = some (.type "int") := by decide +kernel
theorem bt_isinstance : bootBuiltins "isinstance" = some (.builtin "isinstance") := by decide +kernel
theorem bt_len : bootBuiltins "len" = some (.builtin "len") := by decide +kernel
theorem bt_list : bootBuiltins "list" = some (.type "list") := by decide +kernel
theorem bt_min : bootBuiltins "min" = some (.builtin "min") := by decide +kernel
theorem bt_sorted : bootBuiltins "sorted" = some (.builtin "sorted") := by decide +kernel
theorem bt_str : bootBuiltins "str" = some (.type "str") := by decide +kernel
theorem bt_tuple : bootBuiltins "tuple" = some (.type "tuple") := by decide +kernel
theorem ks0 : Str.ofString "" = Gx.mkS [] := by decide +kernel
theorem ks1 : Str.ofString "other" = Gx.mkS [111, 116, 104, 101, 114] := by decide +kernel
theorem ks2 : Str.ofString "none" = Gx.mkS [110, 111, 110, 101] := by decide +kernel
theorem ks3 : Str.ofString "truth" = Gx.mkS [116, 114, 117, 116, 104] := by decide +kernel
theorem ks4 : Str.ofString "number" = Gx.mkS [110, 117, 109, 98, 101, 114] := by decide +kernel
theorem ks5 : Str.ofString "text" = Gx.mkS [116, 101, 120, 116] := by decide +kernel
theorem ks6 : Str.ofString "list" = Gx.mkS [108, 105, 115, 116] := by decide +kernel
theorem ks7 : Str.ofString "tuple" = Gx.mkS [116, 117, 112, 108, 101] := by decide +kernel
theorem ks8 : Str.ofString ":;abc" = Gx.mkS [58, 59, 97, 98, 99] := by decide +kernel
theorem ks9 : Str.ofString "a" = Gx.mkS [97] := by decide +kernel
theorem ks10 : Str.ofString "c" = Gx.mkS [99] := by decide +kernel
abbrev s_Splice_init : Stmt := inClass (topS 4) 0
theorem st_Splice_init {x0 x1 x2 x3 : V} : L2.start ["self", "start", "end", "new"] [x0, x1, x2, x3] = [some x0, some x1, some x2, some x3] := rfl
theorem sc_Splice_init : FnScope ["self", "start", "end", "new"] ["self", "start", "end", "new"] (defScope s_Splice_init) := ⟨rfl, rfl, rfl, by decide +kernel, rfl, by decide +kernel, by decide +kernel⟩
abbrev s_Splice_longer : Stmt := inClass (topS 4) 1
theorem st_Splice_longer {x0 : V} : L2.start ["self"] [x0] = [some x0] := rfl
theorem sc_Splice_longer : FnScope ["self"] ["self"] (defScope s_Splice_longer) := ⟨rfl, rfl, rfl, by decide +kernel, rfl, by decide +kernel, by decide +kernel⟩
abbrev s_Splice_eq : Stmt := inClass (topS 4) 2
theorem st_Splice_eq {x0 x1 : V} : L2.start ["self", "other"] [x0, x1] = [some x0, some x1] := rfl
theorem sc_Splice_eq : FnScope ["self", "other"] ["self", "other"] (defScope s_Splice_eq) := ⟨rfl, rfl, rfl, by decide +kernel, rfl, by decide +kernel, by decide +kernel⟩
abbrev s_Splice_fits : Stmt := inClass (topS 4) 3
theorem st_Splice_fits {x0 x1 : V} : L2.start ["self", "text"] [x0, x1] = [some x0, some x1] := rfl
theorem sc_Splice_fits : FnScope ["self", "text"] ["self", "text"] (defScope s_Splice_fits) := ⟨rfl, rfl, rfl, by decide +kernel, rfl, by decide +kernel, by decide +kernel⟩
abbrev s_Splice_call : Stmt := inClass (topS 4) 4
theorem st_Splice_call {x0 x1 : V} : L2.start ["self", "text"] [x0, x1] = [some x0, some x1] := rfl
theorem sc_Splice_call : FnScope ["self", "text"] ["self", "text"] (defScope s_Splice_call) := ⟨rfl, rfl, rfl, by decide +kernel, rfl, by decide +kernel, by decide +kernel⟩
abbrev s_Splice_back : Stmt := inClass (topS 4) 5
theorem st_Splice_back {x0 x1 : V} : L2.start ["self", "text"] [x0, x1] = [some x0, some x1] := rfl
theorem sc_Splice_back : FnScope ["self", "text"] ["self", "text"] (defScope s_Splice_back) := ⟨rfl, rfl, rfl, by decide +kernel, rfl, by decide +kernel, by decide +kernel⟩
abbrev s_all_applied : Stmt := topS 5
theorem st_all_applied {x0 x1 : V} : L2.start ["splices", "text", "found", "reached", "splice"] [x0, x1] = [some x0, some x1, none, none, none] := rfl
theorem sc_all_applied : FnScope ["splices", "text", "found", "reached", "splice"] ["splices", "text"] (defScope s_all_applied) := ⟨rfl, rfl, rfl, by decide +kernel, rfl, by decide +kernel, by decide +kernel⟩
abbrev s_all_back : Stmt := topS 6
theorem st_all_back {x0 x1 : V} : L2.start ["splices", "text", "found", "moved", "reached", "splice", "start"] [x0, x1] = [some x0, some x1, none, none, none, none, none] := rfl
theorem sc_all_back : FnScope ["splices", "text", "found", "moved", "reached", "splice", "start"] ["splices", "text"] (defScope s_all_back) := ⟨rfl, rfl, rfl, by decide +kernel, rfl, by decide +kernel, by decide +kernel⟩
abbrev s__law_mix : Stmt := topS 8
theorem st__law_mix {x0 x1 : V} : L2.start ["cell", "k", "first", "second"] [x0, x1] = [some x0, some x1, none, none] := rfl
theorem sc__law_mix : FnScope ["cell", "k", "first", "second"] ["cell", "k"] (defScope s__law_mix) := ⟨rfl, rfl, rfl, by decide +kernel, rfl, by decide +kernel, by decide +kernel⟩
abbrev s__law_stream : Stmt := topS 9
theorem st__law_stream {x0 x1 : V} : L2.start ["script", "many", "rest", "found", "k", "cell"] [x0, x1] = [some x0, some x1, none, none, none, none] := rfl
theorem sc__law_stream : FnScope ["script", "many", "rest", "found", "k", "cell"] ["script", "many"] (defScope s__law_stream) := ⟨rfl, rfl, rfl, by decide +kernel, rfl, by decide +kernel, by decide +kernel⟩
abbrev s__law_pick : Stmt := topS 10
theorem st__law_pick {x0 x1 x2 : V} : L2.start ["numbers", "at", "many"] [x0, x1, x2] = [some x0, some x1, some x2] := rfl
theorem sc__law_pick : FnScope ["numbers", "at", "many"] ["numbers", "at", "many"] (defScope s__law_pick) := ⟨rfl, rfl, rfl, by decide +kernel, rfl, by decide +kernel, by decide +kernel⟩
abbrev s__law_wide : Stmt := topS 11
theorem st__law_wide {x0 x1 x2 : V} : L2.start ["numbers", "at", "many"] [x0, x1, x2] = [some x0, some x1, some x2] := rfl
theorem sc__law_wide : FnScope ["numbers", "at", "many"] ["numbers", "at", "many"] (defScope s__law_wide) := ⟨rfl, rfl, rfl, by decide +kernel, rfl, by decide +kernel, by decide +kernel⟩
abbrev s__law_kind : Stmt := topS 12
theorem st__law_kind {x0 : V} : L2.start ["value", "item"] [x0] = [some x0, none] := rfl
theorem sc__law_kind : FnScope ["value", "item"] ["value"] (defScope s__law_kind) := ⟨rfl, rfl, rfl, by decide +kernel, rfl, by decide +kernel, by decide +kernel⟩
abbrev s__law_same : Stmt := topS 13
theorem st__law_same {x0 x1 : V} : L2.start ["answer", "due"] [x0, x1] = [some x0, some x1] := rfl
theorem sc__law_same : FnScope ["answer", "due"] ["answer", "due"] (defScope s__law_same) := ⟨rfl, rfl, rfl, by decide +kernel, rfl, by decide +kernel, by decide +kernel⟩
abbrev s__law_text : Stmt := topS 14
theorem st__law_text {x0 x1 x2 : V} : L2.start ["numbers", "at", "many", "k"] [x0, x1, x2] = [some x0, some x1, some x2, none] := rfl
theorem sc__law_text : FnScope ["numbers", "at", "many", "k"] ["numbers", "at", "many"] (defScope s__law_text) := ⟨rfl, rfl, rfl, by decide +kernel, rfl, by decide +kernel, by decide +kernel⟩
abbrev s__law_plan : Stmt := topS 15
theorem st__law_plan {x0 x1 : V} : L2.start ["numbers", "text", "many", "marks", "k", "room", "found", "new"] [x0, x1] = [some x0, some x1, none, none, none, none, none, none] := rfl
theorem sc__law_plan : FnScope ["numbers", "text", "many", "marks", "k", "room", "found", "new"] ["numbers", "text"] (defScope s__law_plan) := ⟨rfl, rfl, rfl, by decide +kernel, rfl, by decide +kernel, by decide +kernel⟩
abbrev s__law_in_order : Stmt := topS 16
theorem st__law_in_order {x0 x1 : V} : L2.start ["plan", "size", "reached", "splice"] [x0, x1] = [some x0, some x1, none, none] := rfl
theorem sc__law_in_order : FnScope ["plan", "size", "reached", "splice"] ["plan", "size"] (defScope s__law_in_order) := ⟨rfl, rfl, rfl, by decide +kernel, rfl, by decide +kernel, by decide +kernel⟩
abbrev s__law_after : Stmt := topS 17
theorem st__law_after {x0 x1 : V} : L2.start ["plan", "text", "found", "turn", "splice"] [x0, x1] = [some x0, some x1, none, none, none] := rfl
theorem sc__law_after : FnScope ["plan", "text", "found", "turn", "splice"] ["plan", "text"] (defScope s__law_after) := ⟨rfl, rfl, rfl, by decide +kernel, rfl, by decide +kernel, by decide +kernel⟩
abbrev s__law_undone : Stmt := topS 18
theorem st__law_undone {x0 x1 : V} : L2.start ["plan", "text", "found", "moved", "splice", "start"] [x0, x1] = [some x0, some x1, none, none, none, none] := rfl
theorem sc__law_undone : FnScope ["plan", "text", "found", "moved", "splice", "start"] ["plan", "text"] (defScope s__law_undone) := ⟨rfl, rfl, rfl, by decide +kernel, rfl, by decide +kernel, by decide +kernel⟩
abbrev s__law_moved : Stmt := topS 19
theorem st__law_moved {x0 x1 x2 : V} : L2.start ["splice", "first", "last"] [x0, x1, x2] = [some x0, some x1, some x2] := rfl
theorem sc__law_moved : FnScope ["splice", "first", "last"] ["splice", "first", "last"] (defScope s__law_moved) := ⟨rfl, rfl, rfl, by decide +kernel, rfl, by decide +kernel, by decide +kernel⟩
abbrev s__law_changed : Stmt := topS 20
theorem st__law_changed {x0 x1 x2 x3 : V} : L2.start ["plan", "numbers", "at", "size", "start", "k", "splice", "way"] [x0, x1, x2, x3] = [some x0, some x1, some x2, some x3, none, none, none, none] := rfl
theorem sc__law_changed : FnScope ["plan", "numbers", "at", "size", "start", "k", "splice", "way"] ["plan", "numbers", "at", "size"] (defScope s__law_changed) := ⟨rfl, rfl, rfl, by decide +kernel, rfl, by decide +kernel, by decide +kernel⟩
abbrev s__law_made : Stmt := topS 21
theorem st__law_made {x0 : V} : L2.start ["plan", "splice"] [x0] = [some x0, none] := rfl
theorem sc__law_made : FnScope ["plan", "splice"] ["plan"] (defScope s__law_made) := ⟨rfl, rfl, rfl, by decide +kernel, rfl, by decide +kernel, by decide +kernel⟩
abbrev s__law_told : Stmt := topS 22
theorem st__law_told {x0 : V} : L2.start ["splices", "found", "splice"] [x0] = [some x0, none, none] := rfl
theorem sc__law_told : FnScope ["splices", "found", "splice"] ["splices"] (defScope s__law_told) := ⟨rfl, rfl, rfl, by decide +kernel, rfl, by decide +kernel, by decide +kernel⟩
abbrev s__law_refused : Stmt := topS 23
theorem st__law_refused {x0 x1 x2 : V} : L2.start ["splices", "text", "back", "e"] [x0, x1, x2] = [some x0, some x1, some x2, none] := rfl
theorem sc__law_refused : FnScope ["splices", "text", "back", "e"] ["splices", "text", "back"] (defScope s__law_refused) := ⟨rfl, rfl, rfl, by decide +kernel, rfl, by decide +kernel, by decide +kernel⟩
abbrev s__law_fits : Stmt := topS 24
theorem st__law_fits {x0 x1 : V} : L2.start ["plan", "text", "splices", "after", "undone", "turn", "back"] [x0, x1] = [some x0, some x1, none, none, none, none, none] := rfl
theorem sc__law_fits : FnScope ["plan", "text", "splices", "after", "undone", "turn", "back"] ["plan", "text"] (defScope s__law_fits) := ⟨rfl, rfl, rfl, by decide +kernel, rfl, by decide +kernel, by decide +kernel⟩
abbrev s_law : Stmt := topS 25
theorem st_law {x0 : V} : L2.start ["script", "numbers", "size", "text", "plan", "turn"] [x0] = [some x0, none, none, none, none, none] := rfl
theorem sc_law : FnScope ["script", "numbers", "size", "text", "plan", "turn"] ["script"] (defScope s_law) := ⟨rfl, rfl, rfl, by decide +kernel, rfl, by decide +kernel, by decide +kernel⟩
structure Txt (K : PySem.W.Frag) (mg : Str → Option Value) where
  a_LensError : Addr
  g_LensError : mg "LensError" = some (.ref a_LensError)
  k_LensError : PySem.W.keepIn K (.ref a_LensError) = true
  x_LensError : PySem.W.excIn K a_LensError [.type "ValueError", .type "Exception", .type "BaseException", .type "object"] "ValueError.__new__" = true
  bP_LensError : PySem.W.subIn K (.ref a_LensError) (.type "BaseException") = some true
  tP_LensError : PySem.W.typeIn K (.ref a_LensError) = some (.type "type")
  iP_LensError : PySem.W.isClsIn K a_LensError = true
  a_BadSplice : Addr
  g_BadSplice : mg "BadSplice" = some (.ref a_BadSplice)
  k_BadSplice : PySem.W.keepIn K (.ref a_BadSplice) = true
  x_BadSplice : PySem.W.excIn K a_BadSplice [.type "ValueError", .type "Exception", .type "BaseException", .type "object"] "ValueError.__new__" = true
  bP_BadSplice : PySem.W.subIn K (.ref a_BadSplice) (.type "BaseException") = some true
  tP_BadSplice : PySem.W.typeIn K (.ref a_BadSplice) = some (.type "type")
  iP_BadSplice : PySem.W.isClsIn K a_BadSplice = true
  a_Splice : Addr
  g_Splice : mg "Splice" = some (.ref a_Splice)
  k_Splice : PySem.W.keepIn K (.ref a_Splice) = true
  c_Splice : Cls K a_Splice
  n_Splice_start : NoAttr K a_Splice "start"
  n_Splice_end : NoAttr K a_Splice "end"
  n_Splice_new : NoAttr K a_Splice "new"
  ha_Splice : PySem.W.findIn K (.ref a_Splice) "__class__" = some (some (.builtin "object.__class__"))
  hm_Splice : PySem.W.mroIn K a_Splice (.type "object") = some true
  hn_ : PySem.W.specialIn K (.builtin "object.__class__") "__get__" = some (some (.builtin "getset_descriptor.__get__"))
  htk_ : PySem.W.takesIn K (.builtin "object.__class__") = some true
  f_Splice_init : Addr
  fd_Splice_init : FuncData
  F_Splice_init : Fun K "__init__" "Splice.__init__" s_Splice_init f_Splice_init fd_Splice_init
  b_Splice_init : Binds K fd_Splice_init ["self", "start", "end", "new"] []
  m_Splice_init : Meth K a_Splice "__init__" f_Splice_init
  M_Splice : Mk K a_Splice f_Splice_init
  f_Splice_longer : Addr
  fd_Splice_longer : FuncData
  F_Splice_longer : Fun K "longer" "Splice.longer" s_Splice_longer f_Splice_longer fd_Splice_longer
  b_Splice_longer : Binds K fd_Splice_longer ["self"] []
  p_Splice_longer : Addr
  pr_Splice_longer : PropOf K a_Splice "longer" p_Splice_longer f_Splice_longer
  f_Splice_eq : Addr
  fd_Splice_eq : FuncData
  F_Splice_eq : Fun K "__eq__" "Splice.__eq__" s_Splice_eq f_Splice_eq fd_Splice_eq
  b_Splice_eq : Binds K fd_Splice_eq ["self", "other"] []
  m_Splice_eq : Meth K a_Splice "__eq__" f_Splice_eq
  f_Splice_fits : Addr
  fd_Splice_fits : FuncData
  F_Splice_fits : Fun K "fits" "Splice.fits" s_Splice_fits f_Splice_fits fd_Splice_fits
  b_Splice_fits : Binds K fd_Splice_fits ["self", "text"] []
  m_Splice_fits : Meth K a_Splice "fits" f_Splice_fits
  f_Splice_call : Addr
  fd_Splice_call : FuncData
  F_Splice_call : Fun K "__call__" "Splice.__call__" s_Splice_call f_Splice_call fd_Splice_call
  b_Splice_call : Binds K fd_Splice_call ["self", "text"] []
  m_Splice_call : Meth K a_Splice "__call__" f_Splice_call
  f_Splice_back : Addr
  fd_Splice_back : FuncData
  F_Splice_back : Fun K "back" "Splice.back" s_Splice_back f_Splice_back fd_Splice_back
  b_Splice_back : Binds K fd_Splice_back ["self", "text"] []
  m_Splice_back : Meth K a_Splice "back" f_Splice_back
  f_all_applied : Addr
  fd_all_applied : FuncData
  F_all_applied : Fun K "all_applied" "all_applied" s_all_applied f_all_applied fd_all_applied
  b_all_applied : Binds K fd_all_applied ["splices", "text"] []
  g_all_applied : mg "all_applied" = some (.ref f_all_applied)
  f_all_back : Addr
  fd_all_back : FuncData
  F_all_back : Fun K "all_back" "all_back" s_all_back f_all_back fd_all_back
  b_all_back : Binds K fd_all_back ["splices", "text"] []
  g_all_back : mg "all_back" = some (.ref f_all_back)
  f__law_mix : Addr
  fd__law_mix : FuncData
  F__law_mix : Fun K "_law_mix" "_law_mix" s__law_mix f__law_mix fd__law_mix
  b__law_mix : Binds K fd__law_mix ["cell", "k"] []
  g__law_mix : mg "_law_mix" = some (.ref f__law_mix)
  f__law_stream : Addr
  fd__law_stream : FuncData
  F__law_stream : Fun K "_law_stream" "_law_stream" s__law_stream f__law_stream fd__law_stream
  b__law_stream : Binds K fd__law_stream ["script", "many"] []
  g__law_stream : mg "_law_stream" = some (.ref f__law_stream)
  f__law_pick : Addr
  fd__law_pick : FuncData
  F__law_pick : Fun K "_law_pick" "_law_pick" s__law_pick f__law_pick fd__law_pick
  b__law_pick : Binds K fd__law_pick ["numbers", "at", "many"] []
  g__law_pick : mg "_law_pick" = some (.ref f__law_pick)
  f__law_wide : Addr
  fd__law_wide : FuncData
  F__law_wide : Fun K "_law_wide" "_law_wide" s__law_wide f__law_wide fd__law_wide
  b__law_wide : Binds K fd__law_wide ["numbers", "at", "many"] []
  g__law_wide : mg "_law_wide" = some (.ref f__law_wide)
  f__law_kind : Addr
  fd__law_kind : FuncData
  F__law_kind : Fun K "_law_kind" "_law_kind" s__law_kind f__law_kind fd__law_kind
  b__law_kind : Binds K fd__law_kind ["value"] []
  g__law_kind : mg "_law_kind" = some (.ref f__law_kind)
  f__law_same : Addr
  fd__law_same : FuncData
  F__law_same : Fun K "_law_same" "_law_same" s__law_same f__law_same fd__law_same
  b__law_same : Binds K fd__law_same ["answer", "due"] []
  g__law_same : mg "_law_same" = some (.ref f__law_same)
  f__law_text : Addr
  fd__law_text : FuncData
  F__law_text : Fun K "_law_text" "_law_text" s__law_text f__law_text fd__law_text
  b__law_text : Binds K fd__law_text ["numbers", "at", "many"] []
  g__law_text : mg "_law_text" = some (.ref f__law_text)
  f__law_plan : Addr
  fd__law_plan : FuncData
  F__law_plan : Fun K "_law_plan" "_law_plan" s__law_plan f__law_plan fd__law_plan
  b__law_plan : Binds K fd__law_plan ["numbers", "text"] []
  g__law_plan : mg "_law_plan" = some (.ref f__law_plan)
  f__law_in_order : Addr
  fd__law_in_order : FuncData
  F__law_in_order : Fun K "_law_in_order" "_law_in_order" s__law_in_order f__law_in_order fd__law_in_order
  b__law_in_order : Binds K fd__law_in_order ["plan", "size"] []
  g__law_in_order : mg "_law_in_order" = some (.ref f__law_in_order)
  f__law_after : Addr
  fd__law_after : FuncData
  F__law_after : Fun K "_law_after" "_law_after" s__law_after f__law_after fd__law_after
  b__law_after : Binds K fd__law_after ["plan", "text"] []
  g__law_after : mg "_law_after" = some (.ref f__law_after)
  f__law_undone : Addr
  fd__law_undone : FuncData
  F__law_undone : Fun K "_law_undone" "_law_undone" s__law_undone f__law_undone fd__law_undone
  b__law_undone : Binds K fd__law_undone ["plan", "text"] []
  g__law_undone : mg "_law_undone" = some (.ref f__law_undone)
  f__law_moved : Addr
  fd__law_moved : FuncData
  F__law_moved : Fun K "_law_moved" "_law_moved" s__law_moved f__law_moved fd__law_moved
  b__law_moved : Binds K fd__law_moved ["splice", "first", "last"] []
  g__law_moved : mg "_law_moved" = some (.ref f__law_moved)
  f__law_changed : Addr
  fd__law_changed : FuncData
  F__law_changed : Fun K "_law_changed" "_law_changed" s__law_changed f__law_changed fd__law_changed
  b__law_changed : Binds K fd__law_changed ["plan", "numbers", "at", "size"] []
  g__law_changed : mg "_law_changed" = some (.ref f__law_changed)
  f__law_made : Addr
  fd__law_made : FuncData
  F__law_made : Fun K "_law_made" "_law_made" s__law_made f__law_made fd__law_made
  b__law_made : Binds K fd__law_made ["plan"] []
  g__law_made : mg "_law_made" = some (.ref f__law_made)
  f__law_told : Addr
  fd__law_told : FuncData
  F__law_told : Fun K "_law_told" "_law_told" s__law_told f__law_told fd__law_told
  b__law_told : Binds K fd__law_told ["splices"] []
  g__law_told : mg "_law_told" = some (.ref f__law_told)
  f__law_refused : Addr
  fd__law_refused : FuncData
  F__law_refused : Fun K "_law_refused" "_law_refused" s__law_refused f__law_refused fd__law_refused
  b__law_refused : Binds K fd__law_refused ["splices", "text", "back"] []
  g__law_refused : mg "_law_refused" = some (.ref f__law_refused)
  f__law_fits : Addr
  fd__law_fits : FuncData
  F__law_fits : Fun K "_law_fits" "_law_fits" s__law_fits f__law_fits fd__law_fits
  b__law_fits : Binds K fd__law_fits ["plan", "text"] []
  g__law_fits : mg "_law_fits" = some (.ref f__law_fits)
  f_law : Addr
  fd_law : FuncData
  F_law : Fun K "law" "law" s_law f_law fd_law
  b_law : Binds K fd_law ["script"] []
  g_law : mg "law" = some (.ref f_law)
  bt_law : ∀ (s : Shared) (v : Value), BindsTo s fd_law ⟨[v], []⟩ [("script", v)]
  z_ValueError : mg "ValueError" = none
  z_abs : mg "abs" = none
  z_bool : mg "bool" = none
  z_int : mg "int" = none
  z_isinstance : mg "isinstance" = none
  z_len : mg "len" = none
  z_list : mg "list" = none
  z_min : mg "min" = none
  z_range : mg "range" = none
  z_sorted : mg "sorted" = none
  z_str : mg "str" = none
  z_tuple : mg "tuple" = none
  ks_str : PySem.W.kitOne K (.type "str") (.ref a_Splice) = some false
  ks_tup : PySem.W.kitOne K (.type "tuple") (.ref a_Splice) = some false
  ss_str : PySem.W.subIn K (.type "str") (.ref a_Splice) = some false
  ss_tup : PySem.W.subIn K (.type "tuple") (.ref a_Splice) = some false
  fi_Splice : PySem.W.fnIn K f_Splice_call = true
  ecg : PySem.W.findIn K (.ref a_BadSplice) "__getattribute__" = some (some (.builtin "BaseException.__getattribute__"))
  eck : PySem.W.findIn K (.ref a_BadSplice) "__getattr__" = some none
  ecd : PySem.W.hasDictIn K a_BadSplice = true
  eca : PySem.W.findIn K (.ref a_BadSplice) "__class__" = some (some (.builtin "object.__class__"))
  ecm : PySem.W.mroIn K a_BadSplice (.type "object") = some true
  em_bl : PySem.W.exmOne K (.ref a_BadSplice) (.ref a_LensError) = some true
  kv_bs : PySem.W.kitOne K (.ref a_BadSplice) (.type "ValueError") = some true
theorem txt_mk {K : PySem.W.Frag} {h : Heap} {mg : Str → Option Value} (X : K.In h) (G : h.Ns mainGlobals mg) {a_LensError a_BadSplice a_Splice f_Splice_init f_Splice_longer p_Splice_longer f_Splice_eq f_Splice_fits f_Splice_call f_Splice_back f_all_applied f_all_back f__law_mix f__law_stream f__law_pick f__law_wide f__law_kind f__law_same f__law_text f__law_plan f__law_in_order f__law_after f__law_undone f__law_moved f__law_changed f__law_made f__law_told f__law_refused f__law_fits f_law : Addr}
    {oc_Splice_init kV_Splice_init dc_Splice_init pm_Splice_init cd_Splice_init ct_Splice_init : Value} {od_Splice_init an_Splice_init : Option Addr} {sl_Splice_init : Array (Option Value)} {pe_Splice_longer : List Value} {oc_Splice_longer kV_Splice_longer dc_Splice_longer pm_Splice_longer cd_Splice_longer ct_Splice_longer : Value} {od_Splice_longer an_Splice_longer : Option Addr} {sl_Splice_longer : Array (Option Value)} {oc_Splice_eq kV_Splice_eq dc_Splice_eq pm_Splice_eq cd_Splice_eq ct_Splice_eq : Value} {od_Splice_eq an_Splice_eq : Option Addr} {sl_Splice_eq : Array (Option Value)} {oc_Splice_fits kV_Splice_fits dc_Splice_fits pm_Splice_fits cd_Splice_fits ct_Splice_fits : Value} {od_Splice_fits an_Splice_fits : Option Addr} {sl_Splice_fits : Array (Option Value)} {oc_Splice_call kV_Splice_call dc_Splice_call pm_Splice_call cd_Splice_call ct_Splice_call : Value} {od_Splice_call an_Splice_call : Option Addr} {sl_Splice_call : Array (Option Value)} {oc_Splice_back kV_Splice_back dc_Splice_back pm_Splice_back cd_Splice_back ct_Splice_back : Value} {od_Splice_back an_Splice_back : Option Addr} {sl_Splice_back : Array (Option Value)} {oc_all_applied kV_all_applied dc_all_applied pm_all_applied cd_all_applied ct_all_applied : Value} {od_all_applied an_all_applied : Option Addr} {sl_all_applied : Array (Option Value)} {oc_all_back kV_all_back dc_all_back pm_all_back cd_all_back ct_all_back : Value} {od_all_back an_all_back : Option Addr} {sl_all_back : Array (Option Value)} {oc__law_mix kV__law_mix dc__law_mix pm__law_mix cd__law_mix ct__law_mix : Value} {od__law_mix an__law_mix : Option Addr} {sl__law_mix : Array (Option Value)} {oc__law_stream kV__law_stream dc__law_stream pm__law_stream cd__law_stream ct__law_stream : Value} {od__law_stream an__law_stream : Option Addr} {sl__law_stream : Array (Option Value)} {oc__law_pick kV__law_pick dc__law_pick pm__law_pick cd__law_pick ct__law_pick : Value} {od__law_pick an__law_pick : Option Addr} {sl__law_pick : Array (Option Value)} {oc__law_wide kV__law_wide dc__law_wide pm__law_wide cd__law_wide ct__law_wide : Value} {od__law_wide an__law_wide : Option Addr} {sl__law_wide : Array (Option Value)} {oc__law_kind kV__law_kind dc__law_kind pm__law_kind cd__law_kind ct__law_kind : Value} {od__law_kind an__law_kind : Option Addr} {sl__law_kind : Array (Option Value)} {oc__law_same kV__law_same dc__law_same pm__law_same cd__law_same ct__law_same : Value} {od__law_same an__law_same : Option Addr} {sl__law_same : Array (Option Value)} {oc__law_text kV__law_text dc__law_text pm__law_text cd__law_text ct__law_text : Value} {od__law_text an__law_text : Option Addr} {sl__law_text : Array (Option Value)} {oc__law_plan kV__law_plan dc__law_plan pm__law_plan cd__law_plan ct__law_plan : Value} {od__law_plan an__law_plan : Option Addr} {sl__law_plan : Array (Option Value)} {oc__law_in_order kV__law_in_order dc__law_in_order pm__law_in_order cd__law_in_order ct__law_in_order : Value} {od__law_in_order an__law_in_order : Option Addr} {sl__law_in_order : Array (Option Value)} {oc__law_after kV__law_after dc__law_after pm__law_after cd__law_after ct__law_after : Value} {od__law_after an__law_after : Option Addr} {sl__law_after : Array (Option Value)} {oc__law_undone kV__law_undone dc__law_undone pm__law_undone cd__law_undone ct__law_undone : Value} {od__law_undone an__law_undone : Option Addr} {sl__law_undone : Array (Option Value)} {oc__law_moved kV__law_moved dc__law_moved pm__law_moved cd__law_moved ct__law_moved : Value} {od__law_moved an__law_moved : Option Addr} {sl__law_moved : Array (Option Value)} {oc__law_changed kV__law_changed dc__law_changed pm__law_changed cd__law_changed ct__law_changed : Value} {od__law_changed an__law_changed : Option Addr} {sl__law_changed : Array (Option Value)} {oc__law_made kV__law_made dc__law_made pm__law_made cd__law_made ct__law_made : Value} {od__law_made an__law_made : Option Addr} {sl__law_made : Array (Option Value)} {oc__law_told kV__law_told dc__law_told pm__law_told cd__law_told ct__law_told : Value} {od__law_told an__law_told : Option Addr} {sl__law_told : Array (Option Value)} {oc__law_refused kV__law_refused dc__law_refused pm__law_refused cd__law_refused ct__law_refused : Value} {od__law_refused an__law_refused : Option Addr} {sl__law_refused : Array (Option Value)} {oc__law_fits kV__law_fits dc__law_fits pm__law_fits cd__law_fits ct__law_fits : Value} {od__law_fits an__law_fits : Option Addr} {sl__law_fits : Array (Option Value)} {oc_law kV_law dc_law pm_law cd_law ct_law : Value} {od_law an_law : Option Addr} {sl_law : Array (Option Value)}
    (ga_LensError : PySem.W.nsIn K mainGlobals "LensError" = some (some (.ref a_LensError)))
    (k_LensError : PySem.W.keepIn K (.ref a_LensError) = true)
    (x_LensError : PySem.W.excIn K a_LensError [.type "ValueError", .type "Exception", .type "BaseException", .type "object"] "ValueError.__new__" = true)
    (bP_LensError : PySem.W.subIn K (.ref a_LensError) (.type "BaseException") = some true)
    (tP_LensError : PySem.W.typeIn K (.ref a_LensError) = some (.type "type"))
    (iP_LensError : PySem.W.isClsIn K a_LensError = true)
    (ga_BadSplice : PySem.W.nsIn K mainGlobals "BadSplice" = some (some (.ref a_BadSplice)))
    (k_BadSplice : PySem.W.keepIn K (.ref a_BadSplice) = true)
    (x_BadSplice : PySem.W.excIn K a_BadSplice [.type "ValueError", .type "Exception", .type "BaseException", .type "object"] "ValueError.__new__" = true)
    (bP_BadSplice : PySem.W.subIn K (.ref a_BadSplice) (.type "BaseException") = some true)
    (tP_BadSplice : PySem.W.typeIn K (.ref a_BadSplice) = some (.type "type"))
    (iP_BadSplice : PySem.W.isClsIn K a_BadSplice = true)
    (ga_Splice : PySem.W.nsIn K mainGlobals "Splice" = some (some (.ref a_Splice)))
    (k_Splice : PySem.W.keepIn K (.ref a_Splice) = true)
    (pg_Splice : PySem.W.plainGet K a_Splice Str.empty = true)
    (hd_Splice : PySem.W.hasDictIn K a_Splice = true)
    (po_Splice : PySem.W.plainOver K a_Splice = true)
    (sa_Splice : PySem.W.findIn K (.ref a_Splice) "__setattr__" = some (some (.builtin "object.__setattr__")))
    (mk_Splice : PySem.W.makesIn K a_Splice = true)
    (n_Splice_start : PySem.W.findIn K (.ref a_Splice) "start" = some none)
    (n_Splice_end : PySem.W.findIn K (.ref a_Splice) "end" = some none)
    (n_Splice_new : PySem.W.findIn K (.ref a_Splice) "new" = some none)
    (ha_Splice : PySem.W.findIn K (.ref a_Splice) "__class__" = some (some (.builtin "object.__class__")))
    (hm_Splice : PySem.W.mroIn K a_Splice (.type "object") = some true)
    (hn_ : PySem.W.specialIn K (.builtin "object.__class__") "__get__" = some (some (.builtin "getset_descriptor.__get__")))
    (htk_ : PySem.W.takesIn K (.builtin "object.__class__") = some true)
    (ga_Splice_init : PySem.W.findIn K (.ref a_Splice) "__init__" = some (some (.ref f_Splice_init)))
    (i_Splice_init : PySem.W.isFn K (.ref f_Splice_init) = true)
    (l_Splice_init : K.lookup f_Splice_init = some ⟨oc_Splice_init, od_Splice_init, .func (PySem.W.fnOf "__init__" "Splice.__init__" (defArgs s_Splice_init) (defBody s_Splice_init) (defScope s_Splice_init) .none kV_Splice_init dc_Splice_init pm_Splice_init an_Splice_init cd_Splice_init ct_Splice_init), sl_Splice_init⟩)
    (cc_Splice_init : PySem.W.codeIn K cd_Splice_init "Splice.__init__" = true)
    (k_Splice_init : PySem.W.keepIn K (.ref f_Splice_init) = true)
    (pa_Splice_longer : PySem.W.findIn K (.ref a_Splice) "longer" = some (some (.ref p_Splice_longer)))
    (pb_Splice_longer : PySem.W.specialIn K (.ref p_Splice_longer) "__get__" = some (some (.builtin "property.__get__")))
    (pc_Splice_longer : PySem.W.takesIn K (.ref p_Splice_longer) = some true)
    (pd_Splice_longer : PySem.W.recIn K p_Splice_longer "property" = some (.ref f_Splice_longer :: pe_Splice_longer))
    (l_Splice_longer : K.lookup f_Splice_longer = some ⟨oc_Splice_longer, od_Splice_longer, .func (PySem.W.fnOf "longer" "Splice.longer" (defArgs s_Splice_longer) (defBody s_Splice_longer) (defScope s_Splice_longer) .none kV_Splice_longer dc_Splice_longer pm_Splice_longer an_Splice_longer cd_Splice_longer ct_Splice_longer), sl_Splice_longer⟩)
    (cc_Splice_longer : PySem.W.codeIn K cd_Splice_longer "Splice.longer" = true)
    (k_Splice_longer : PySem.W.keepIn K (.ref f_Splice_longer) = true)
    (ga_Splice_eq : PySem.W.findIn K (.ref a_Splice) "__eq__" = some (some (.ref f_Splice_eq)))
    (i_Splice_eq : PySem.W.isFn K (.ref f_Splice_eq) = true)
    (l_Splice_eq : K.lookup f_Splice_eq = some ⟨oc_Splice_eq, od_Splice_eq, .func (PySem.W.fnOf "__eq__" "Splice.__eq__" (defArgs s_Splice_eq) (defBody s_Splice_eq) (defScope s_Splice_eq) .none kV_Splice_eq dc_Splice_eq pm_Splice_eq an_Splice_eq cd_Splice_eq ct_Splice_eq), sl_Splice_eq⟩)
    (cc_Splice_eq : PySem.W.codeIn K cd_Splice_eq "Splice.__eq__" = true)
    (k_Splice_eq : PySem.W.keepIn K (.ref f_Splice_eq) = true)
    (ga_Splice_fits : PySem.W.findIn K (.ref a_Splice) "fits" = some (some (.ref f_Splice_fits)))
    (i_Splice_fits : PySem.W.isFn K (.ref f_Splice_fits) = true)
    (l_Splice_fits : K.lookup f_Splice_fits = some ⟨oc_Splice_fits, od_Splice_fits, .func (PySem.W.fnOf "fits" "Splice.fits" (defArgs s_Splice_fits) (defBody s_Splice_fits) (defScope s_Splice_fits) .none kV_Splice_fits dc_Splice_fits pm_Splice_fits an_Splice_fits cd_Splice_fits ct_Splice_fits), sl_Splice_fits⟩)
    (cc_Splice_fits : PySem.W.codeIn K cd_Splice_fits "Splice.fits" = true)
    (k_Splice_fits : PySem.W.keepIn K (.ref f_Splice_fits) = true)
    (ga_Splice_call : PySem.W.findIn K (.ref a_Splice) "__call__" = some (some (.ref f_Splice_call)))
    (i_Splice_call : PySem.W.isFn K (.ref f_Splice_call) = true)
    (l_Splice_call : K.lookup f_Splice_call = some ⟨oc_Splice_call, od_Splice_call, .func (PySem.W.fnOf "__call__" "Splice.__call__" (defArgs s_Splice_call) (defBody s_Splice_call) (defScope s_Splice_call) .none kV_Splice_call dc_Splice_call pm_Splice_call an_Splice_call cd_Splice_call ct_Splice_call), sl_Splice_call⟩)
    (cc_Splice_call : PySem.W.codeIn K cd_Splice_call "Splice.__call__" = true)
    (k_Splice_call : PySem.W.keepIn K (.ref f_Splice_call) = true)
    (ga_Splice_back : PySem.W.findIn K (.ref a_Splice) "back" = some (some (.ref f_Splice_back)))
    (i_Splice_back : PySem.W.isFn K (.ref f_Splice_back) = true)
    (l_Splice_back : K.lookup f_Splice_back = some ⟨oc_Splice_back, od_Splice_back, .func (PySem.W.fnOf "back" "Splice.back" (defArgs s_Splice_back) (defBody s_Splice_back) (defScope s_Splice_back) .none kV_Splice_back dc_Splice_back pm_Splice_back an_Splice_back cd_Splice_back ct_Splice_back), sl_Splice_back⟩)
    (cc_Splice_back : PySem.W.codeIn K cd_Splice_back "Splice.back" = true)
    (k_Splice_back : PySem.W.keepIn K (.ref f_Splice_back) = true)
    (ga_all_applied : PySem.W.nsIn K mainGlobals "all_applied" = some (some (.ref f_all_applied)))
    (l_all_applied : K.lookup f_all_applied = some ⟨oc_all_applied, od_all_applied, .func (PySem.W.fnOf "all_applied" "all_applied" (defArgs s_all_applied) (defBody s_all_applied) (defScope s_all_applied) .none kV_all_applied dc_all_applied pm_all_applied an_all_applied cd_all_applied ct_all_applied), sl_all_applied⟩)
    (cc_all_applied : PySem.W.codeIn K cd_all_applied "all_applied" = true)
    (k_all_applied : PySem.W.keepIn K (.ref f_all_applied) = true)
    (ga_all_back : PySem.W.nsIn K mainGlobals "all_back" = some (some (.ref f_all_back)))
    (l_all_back : K.lookup f_all_back = some ⟨oc_all_back, od_all_back, .func (PySem.W.fnOf "all_back" "all_back" (defArgs s_all_back) (defBody s_all_back) (defScope s_all_back) .none kV_all_back dc_all_back pm_all_back an_all_back cd_all_back ct_all_back), sl_all_back⟩)
    (cc_all_back : PySem.W.codeIn K cd_all_back "all_back" = true)
    (k_all_back : PySem.W.keepIn K (.ref f_all_back) = true)
    (ga__law_mix : PySem.W.nsIn K mainGlobals "_law_mix" = some (some (.ref f__law_mix)))
    (l__law_mix : K.lookup f__law_mix = some ⟨oc__law_mix, od__law_mix, .func (PySem.W.fnOf "_law_mix" "_law_mix" (defArgs s__law_mix) (defBody s__law_mix) (defScope s__law_mix) .none kV__law_mix dc__law_mix pm__law_mix an__law_mix cd__law_mix ct__law_mix), sl__law_mix⟩)
    (cc__law_mix : PySem.W.codeIn K cd__law_mix "_law_mix" = true)
    (k__law_mix : PySem.W.keepIn K (.ref f__law_mix) = true)
    (ga__law_stream : PySem.W.nsIn K mainGlobals "_law_stream" = some (some (.ref f__law_stream)))
    (l__law_stream : K.lookup f__law_stream = some ⟨oc__law_stream, od__law_stream, .func (PySem.W.fnOf "_law_stream" "_law_stream" (defArgs s__law_stream) (defBody s__law_stream) (defScope s__law_stream) .none kV__law_stream dc__law_stream pm__law_stream an__law_stream cd__law_stream ct__law_stream), sl__law_stream⟩)
    (cc__law_stream : PySem.W.codeIn K cd__law_stream "_law_stream" = true)
    (k__law_stream : PySem.W.keepIn K (.ref f__law_stream) = true)
    (ga__law_pick : PySem.W.nsIn K mainGlobals "_law_pick" = some (some (.ref f__law_pick)))
    (l__law_pick : K.lookup f__law_pick = some ⟨oc__law_pick, od__law_pick, .func (PySem.W.fnOf "_law_pick" "_law_pick" (defArgs s__law_pick) (defBody s__law_pick) (defScope s__law_pick) .none kV__law_pick dc__law_pick pm__law_pick an__law_pick cd__law_pick ct__law_pick), sl__law_pick⟩)
    (cc__law_pick : PySem.W.codeIn K cd__law_pick "_law_pick" = true)
    (k__law_pick : PySem.W.keepIn K (.ref f__law_pick) = true)
    (ga__law_wide : PySem.W.nsIn K mainGlobals "_law_wide" = some (some (.ref f__law_wide)))
    (l__law_wide : K.lookup f__law_wide = some ⟨oc__law_wide, od__law_wide, .func (PySem.W.fnOf "_law_wide" "_law_wide" (defArgs s__law_wide) (defBody s__law_wide) (defScope s__law_wide) .none kV__law_wide dc__law_wide pm__law_wide an__law_wide cd__law_wide ct__law_wide), sl__law_wide⟩)
    (cc__law_wide : PySem.W.codeIn K cd__law_wide "_law_wide" = true)
    (k__law_wide : PySem.W.keepIn K (.ref f__law_wide) = true)
    (ga__law_kind : PySem.W.nsIn K mainGlobals "_law_kind" = some (some (.ref f__law_kind)))
    (l__law_kind : K.lookup f__law_kind = some ⟨oc__law_kind, od__law_kind, .func (PySem.W.fnOf "_law_kind" "_law_kind" (defArgs s__law_kind) (defBody s__law_kind) (defScope s__law_kind) .none kV__law_kind dc__law_kind pm__law_kind an__law_kind cd__law_kind ct__law_kind), sl__law_kind⟩)
    (cc__law_kind : PySem.W.codeIn K cd__law_kind "_law_kind" = true)
    (k__law_kind : PySem.W.keepIn K (.ref f__law_kind) = true)
    (ga__law_same : PySem.W.nsIn K mainGlobals "_law_same" = some (some (.ref f__law_same)))
    (l__law_same : K.lookup f__law_same = some ⟨oc__law_same, od__law_same, .func (PySem.W.fnOf "_law_same" "_law_same" (defArgs s__law_same) (defBody s__law_same) (defScope s__law_same) .none kV__law_same dc__law_same pm__law_same an__law_same cd__law_same ct__law_same), sl__law_same⟩)
    (cc__law_same : PySem.W.codeIn K cd__law_same "_law_same" = true)
    (k__law_same : PySem.W.keepIn K (.ref f__law_same) = true)
    (ga__law_text : PySem.W.nsIn K mainGlobals "_law_text" = some (some (.ref f__law_text)))
    (l__law_text : K.lookup f__law_text = some ⟨oc__law_text, od__law_text, .func (PySem.W.fnOf "_law_text" "_law_text" (defArgs s__law_text) (defBody s__law_text) (defScope s__law_text) .none kV__law_text dc__law_text pm__law_text an__law_text cd__law_text ct__law_text), sl__law_text⟩)
    (cc__law_text : PySem.W.codeIn K cd__law_text "_law_text" = true)
    (k__law_text : PySem.W.keepIn K (.ref f__law_text) = true)
    (ga__law_plan : PySem.W.nsIn K mainGlobals "_law_plan" = some (some (.ref f__law_plan)))
    (l__law_plan : K.lookup f__law_plan = some ⟨oc__law_plan, od__law_plan, .func (PySem.W.fnOf "_law_plan" "_law_plan" (defArgs s__law_plan) (defBody s__law_plan) (defScope s__law_plan) .none kV__law_plan dc__law_plan pm__law_plan an__law_plan cd__law_plan ct__law_plan), sl__law_plan⟩)
    (cc__law_plan : PySem.W.codeIn K cd__law_plan "_law_plan" = true)
    (k__law_plan : PySem.W.keepIn K (.ref f__law_plan) = true)
    (ga__law_in_order : PySem.W.nsIn K mainGlobals "_law_in_order" = some (some (.ref f__law_in_order)))
    (l__law_in_order : K.lookup f__law_in_order = some ⟨oc__law_in_order, od__law_in_order, .func (PySem.W.fnOf "_law_in_order" "_law_in_order" (defArgs s__law_in_order) (defBody s__law_in_order) (defScope s__law_in_order) .none kV__law_in_order dc__law_in_order pm__law_in_order an__law_in_order cd__law_in_order ct__law_in_order), sl__law_in_order⟩)
    (cc__law_in_order : PySem.W.codeIn K cd__law_in_order "_law_in_order" = true)
    (k__law_in_order : PySem.W.keepIn K (.ref f__law_in_order) = true)
    (ga__law_after : PySem.W.nsIn K mainGlobals "_law_after" = some (some (.ref f__law_after)))
    (l__law_after : K.lookup f__law_after = some ⟨oc__law_after, od__law_after, .func (PySem.W.fnOf "_law_after" "_law_after" (defArgs s__law_after) (defBody s__law_after) (defScope s__law_after) .none kV__law_after dc__law_after pm__law_after an__law_after cd__law_after ct__law_after), sl__law_after⟩)
    (cc__law_after : PySem.W.codeIn K cd__law_after "_law_after" = true)
    (k__law_after : PySem.W.keepIn K (.ref f__law_after) = true)
    (ga__law_undone : PySem.W.nsIn K mainGlobals "_law_undone" = some (some (.ref f__law_undone)))
    (l__law_undone : K.lookup f__law_undone = some ⟨oc__law_undone, od__law_undone, .func (PySem.W.fnOf "_law_undone" "_law_undone" (defArgs s__law_undone) (defBody s__law_undone) (defScope s__law_undone) .none kV__law_undone dc__law_undone pm__law_undone an__law_undone cd__law_undone ct__law_undone), sl__law_undone⟩)
    (cc__law_undone : PySem.W.codeIn K cd__law_undone "_law_undone" = true)
    (k__law_undone : PySem.W.keepIn K (.ref f__law_undone) = true)
    (ga__law_moved : PySem.W.nsIn K mainGlobals "_law_moved" = some (some (.ref f__law_moved)))
    (l__law_moved : K.lookup f__law_moved = some ⟨oc__law_moved, od__law_moved, .func (PySem.W.fnOf "_law_moved" "_law_moved" (defArgs s__law_moved) (defBody s__law_moved) (defScope s__law_moved) .none kV__law_moved dc__law_moved pm__law_moved an__law_moved cd__law_moved ct__law_moved), sl__law_moved⟩)
    (cc__law_moved : PySem.W.codeIn K cd__law_moved "_law_moved" = true)
    (k__law_moved : PySem.W.keepIn K (.ref f__law_moved) = true)
    (ga__law_changed : PySem.W.nsIn K mainGlobals "_law_changed" = some (some (.ref f__law_changed)))
    (l__law_changed : K.lookup f__law_changed = some ⟨oc__law_changed, od__law_changed, .func (PySem.W.fnOf "_law_changed" "_law_changed" (defArgs s__law_changed) (defBody s__law_changed) (defScope s__law_changed) .none kV__law_changed dc__law_changed pm__law_changed an__law_changed cd__law_changed ct__law_changed), sl__law_changed⟩)
    (cc__law_changed : PySem.W.codeIn K cd__law_changed "_law_changed" = true)
    (k__law_changed : PySem.W.keepIn K (.ref f__law_changed) = true)
    (ga__law_made : PySem.W.nsIn K mainGlobals "_law_made" = some (some (.ref f__law_made)))
    (l__law_made : K.lookup f__law_made = some ⟨oc__law_made, od__law_made, .func (PySem.W.fnOf "_law_made" "_law_made" (defArgs s__law_made) (defBody s__law_made) (defScope s__law_made) .none kV__law_made dc__law_made pm__law_made an__law_made cd__law_made ct__law_made), sl__law_made⟩)
    (cc__law_made : PySem.W.codeIn K cd__law_made "_law_made" = true)
    (k__law_made : PySem.W.keepIn K (.ref f__law_made) = true)
    (ga__law_told : PySem.W.nsIn K mainGlobals "_law_told" = some (some (.ref f__law_told)))
    (l__law_told : K.lookup f__law_told = some ⟨oc__law_told, od__law_told, .func (PySem.W.fnOf "_law_told" "_law_told" (defArgs s__law_told) (defBody s__law_told) (defScope s__law_told) .none kV__law_told dc__law_told pm__law_told an__law_told cd__law_told ct__law_told), sl__law_told⟩)
    (cc__law_told : PySem.W.codeIn K cd__law_told "_law_told" = true)
    (k__law_told : PySem.W.keepIn K (.ref f__law_told) = true)
    (ga__law_refused : PySem.W.nsIn K mainGlobals "_law_refused" = some (some (.ref f__law_refused)))
    (l__law_refused : K.lookup f__law_refused = some ⟨oc__law_refused, od__law_refused, .func (PySem.W.fnOf "_law_refused" "_law_refused" (defArgs s__law_refused) (defBody s__law_refused) (defScope s__law_refused) .none kV__law_refused dc__law_refused pm__law_refused an__law_refused cd__law_refused ct__law_refused), sl__law_refused⟩)
    (cc__law_refused : PySem.W.codeIn K cd__law_refused "_law_refused" = true)
    (k__law_refused : PySem.W.keepIn K (.ref f__law_refused) = true)
    (ga__law_fits : PySem.W.nsIn K mainGlobals "_law_fits" = some (some (.ref f__law_fits)))
    (l__law_fits : K.lookup f__law_fits = some ⟨oc__law_fits, od__law_fits, .func (PySem.W.fnOf "_law_fits" "_law_fits" (defArgs s__law_fits) (defBody s__law_fits) (defScope s__law_fits) .none kV__law_fits dc__law_fits pm__law_fits an__law_fits cd__law_fits ct__law_fits), sl__law_fits⟩)
    (cc__law_fits : PySem.W.codeIn K cd__law_fits "_law_fits" = true)
    (k__law_fits : PySem.W.keepIn K (.ref f__law_fits) = true)
    (ga_law : PySem.W.nsIn K mainGlobals "law" = some (some (.ref f_law)))
    (l_law : K.lookup f_law = some ⟨oc_law, od_law, .func (PySem.W.fnOf "law" "law" (defArgs s_law) (defBody s_law) (defScope s_law) .none kV_law dc_law pm_law an_law cd_law ct_law), sl_law⟩)
    (cc_law : PySem.W.codeIn K cd_law "law" = true)
    (k_law : PySem.W.keepIn K (.ref f_law) = true)
    (zz_ValueError : PySem.W.nsIn K mainGlobals "ValueError" = some none)
    (zz_abs : PySem.W.nsIn K mainGlobals "abs" = some none)
    (zz_bool : PySem.W.nsIn K mainGlobals "bool" = some none)
    (zz_int : PySem.W.nsIn K mainGlobals "int" = some none)
    (zz_isinstance : PySem.W.nsIn K mainGlobals "isinstance" = some none)
    (zz_len : PySem.W.nsIn K mainGlobals "len" = some none)
    (zz_list : PySem.W.nsIn K mainGlobals "list" = some none)
    (zz_min : PySem.W.nsIn K mainGlobals "min" = some none)
    (zz_range : PySem.W.nsIn K mainGlobals "range" = some none)
    (zz_sorted : PySem.W.nsIn K mainGlobals "sorted" = some none)
    (zz_str : PySem.W.nsIn K mainGlobals "str" = some none)
    (zz_tuple : PySem.W.nsIn K mainGlobals "tuple" = some none)
    (ks_str : PySem.W.kitOne K (.type "str") (.ref a_Splice) = some false)
    (ks_tup : PySem.W.kitOne K (.type "tuple") (.ref a_Splice) = some false)
    (ss_str : PySem.W.subIn K (.type "str") (.ref a_Splice) = some false)
    (ss_tup : PySem.W.subIn K (.type "tuple") (.ref a_Splice) = some false)
    (fi_Splice : PySem.W.fnIn K f_Splice_call = true)
    (ecg : PySem.W.findIn K (.ref a_BadSplice) "__getattribute__" = some (some (.builtin "BaseException.__getattribute__")))
    (eck : PySem.W.findIn K (.ref a_BadSplice) "__getattr__" = some none)
    (ecd : PySem.W.hasDictIn K a_BadSplice = true)
    (eca : PySem.W.findIn K (.ref a_BadSplice) "__class__" = some (some (.builtin "object.__class__")))
    (ecm : PySem.W.mroIn K a_BadSplice (.type "object") = some true)
    (em_bl : PySem.W.exmOne K (.ref a_BadSplice) (.ref a_LensError) = some true)
    (kv_bs : PySem.W.kitOne K (.ref a_BadSplice) (.type "ValueError") = some true)
    {fa : Addr} (hfa : mg "law" = some (.ref fa)) : ∃ T : Txt K mg, T.f_law = fa := by
  have e := hfa.symm.trans (PySem.W.mg_of X G ga_law)
  cases e
  exact ⟨{
      a_LensError := a_LensError,
      g_LensError := PySem.W.mg_of X G ga_LensError,
      k_LensError := k_LensError,
      x_LensError := x_LensError,
      bP_LensError := bP_LensError,
      tP_LensError := tP_LensError,
      iP_LensError := iP_LensError,
      a_BadSplice := a_BadSplice,
      g_BadSplice := PySem.W.mg_of X G ga_BadSplice,
      k_BadSplice := k_BadSplice,
      x_BadSplice := x_BadSplice,
      bP_BadSplice := bP_BadSplice,
      tP_BadSplice := tP_BadSplice,
      iP_BadSplice := iP_BadSplice,
      a_Splice := a_Splice,
      g_Splice := PySem.W.mg_of X G ga_Splice,
      k_Splice := k_Splice,
      c_Splice := ⟨pg_Splice, hd_Splice, po_Splice, sa_Splice⟩,
      n_Splice_start := n_Splice_start,
      n_Splice_end := n_Splice_end,
      n_Splice_new := n_Splice_new,
      ha_Splice := ha_Splice,
      hm_Splice := hm_Splice,
      hn_ := hn_,
      htk_ := htk_,
      m_Splice_init := ⟨ga_Splice_init, i_Splice_init, k_Splice_init⟩,
      M_Splice := ⟨mk_Splice, ga_Splice_init, i_Splice_init, k_Splice⟩,
      f_Splice_init := f_Splice_init,
      fd_Splice_init := _,
      F_Splice_init := fun_mk (st := s_Splice_init) l_Splice_init cc_Splice_init k_Splice_init,
      b_Splice_init := (fun_mk (st := s_Splice_init) l_Splice_init cc_Splice_init k_Splice_init).binds (ps := ["self", "start", "end", "new"]) fun _ _ _ _ _ _ us hl => match us, hl with | [_, _, _, _], _ => rfl,
      pr_Splice_longer := ⟨pa_Splice_longer, pb_Splice_longer, pc_Splice_longer, ⟨_, pd_Splice_longer⟩⟩,
      p_Splice_longer := p_Splice_longer,
      f_Splice_longer := f_Splice_longer,
      fd_Splice_longer := _,
      F_Splice_longer := fun_mk (st := s_Splice_longer) l_Splice_longer cc_Splice_longer k_Splice_longer,
      b_Splice_longer := (fun_mk (st := s_Splice_longer) l_Splice_longer cc_Splice_longer k_Splice_longer).binds (ps := ["self"]) fun _ _ _ _ _ _ us hl => match us, hl with | [_], _ => rfl,
      m_Splice_eq := ⟨ga_Splice_eq, i_Splice_eq, k_Splice_eq⟩,
      f_Splice_eq := f_Splice_eq,
      fd_Splice_eq := _,
      F_Splice_eq := fun_mk (st := s_Splice_eq) l_Splice_eq cc_Splice_eq k_Splice_eq,
      b_Splice_eq := (fun_mk (st := s_Splice_eq) l_Splice_eq cc_Splice_eq k_Splice_eq).binds (ps := ["self", "other"]) fun _ _ _ _ _ _ us hl => match us, hl with | [_, _], _ => rfl,
      m_Splice_fits := ⟨ga_Splice_fits, i_Splice_fits, k_Splice_fits⟩,
      f_Splice_fits := f_Splice_fits,
      fd_Splice_fits := _,
      F_Splice_fits := fun_mk (st := s_Splice_fits) l_Splice_fits cc_Splice_fits k_Splice_fits,
      b_Splice_fits := (fun_mk (st := s_Splice_fits) l_Splice_fits cc_Splice_fits k_Splice_fits).binds (ps := ["self", "text"]) fun _ _ _ _ _ _ us hl => match us, hl with | [_, _], _ => rfl,
      m_Splice_call := ⟨ga_Splice_call, i_Splice_call, k_Splice_call⟩,
      f_Splice_call := f_Splice_call,
      fd_Splice_call := _,
      F_Splice_call := fun_mk (st := s_Splice_call) l_Splice_call cc_Splice_call k_Splice_call,
      b_Splice_call := (fun_mk (st := s_Splice_call) l_Splice_call cc_Splice_call k_Splice_call).binds (ps := ["self", "text"]) fun _ _ _ _ _ _ us hl => match us, hl with | [_, _], _ => rfl,
      m_Splice_back := ⟨ga_Splice_back, i_Splice_back, k_Splice_back⟩,
      f_Splice_back := f_Splice_back,
      fd_Splice_back := _,
      F_Splice_back := fun_mk (st := s_Splice_back) l_Splice_back cc_Splice_back k_Splice_back,
      b_Splice_back := (fun_mk (st := s_Splice_back) l_Splice_back cc_Splice_back k_Splice_back).binds (ps := ["self", "text"]) fun _ _ _ _ _ _ us hl => match us, hl with | [_, _], _ => rfl,
      g_all_applied := PySem.W.mg_of X G ga_all_applied,
      f_all_applied := f_all_applied,
      fd_all_applied := _,
      F_all_applied := fun_mk (st := s_all_applied) l_all_applied cc_all_applied k_all_applied,
      b_all_applied := (fun_mk (st := s_all_applied) l_all_applied cc_all_applied k_all_applied).binds (ps := ["splices", "text"]) fun _ _ _ _ _ _ us hl => match us, hl with | [_, _], _ => rfl,
      g_all_back := PySem.W.mg_of X G ga_all_back,
      f_all_back := f_all_back,
      fd_all_back := _,
      F_all_back := fun_mk (st := s_all_back) l_all_back cc_all_back k_all_back,
      b_all_back := (fun_mk (st := s_all_back) l_all_back cc_all_back k_all_back).binds (ps := ["splices", "text"]) fun _ _ _ _ _ _ us hl => match us, hl with | [_, _], _ => rfl,
      g__law_mix := PySem.W.mg_of X G ga__law_mix,
      f__law_mix := f__law_mix,
      fd__law_mix := _,
      F__law_mix := fun_mk (st := s__law_mix) l__law_mix cc__law_mix k__law_mix,
      b__law_mix := (fun_mk (st := s__law_mix) l__law_mix cc__law_mix k__law_mix).binds (ps := ["cell", "k"]) fun _ _ _ _ _ _ us hl => match us, hl with | [_, _], _ => rfl,
      g__law_stream := PySem.W.mg_of X G ga__law_stream,
      f__law_stream := f__law_stream,
      fd__law_stream := _,
      F__law_stream := fun_mk (st := s__law_stream) l__law_stream cc__law_stream k__law_stream,
      b__law_stream := (fun_mk (st := s__law_stream) l__law_stream cc__law_stream k__law_stream).binds (ps := ["script", "many"]) fun _ _ _ _ _ _ us hl => match us, hl with | [_, _], _ => rfl,
      g__law_pick := PySem.W.mg_of X G ga__law_pick,
      f__law_pick := f__law_pick,
      fd__law_pick := _,
      F__law_pick := fun_mk (st := s__law_pick) l__law_pick cc__law_pick k__law_pick,
      b__law_pick := (fun_mk (st := s__law_pick) l__law_pick cc__law_pick k__law_pick).binds (ps := ["numbers", "at", "many"]) fun _ _ _ _ _ _ us hl => match us, hl with | [_, _, _], _ => rfl,
      g__law_wide := PySem.W.mg_of X G ga__law_wide,
      f__law_wide := f__law_wide,
      fd__law_wide := _,
      F__law_wide := fun_mk (st := s__law_wide) l__law_wide cc__law_wide k__law_wide,
      b__law_wide := (fun_mk (st := s__law_wide) l__law_wide cc__law_wide k__law_wide).binds (ps := ["numbers", "at", "many"]) fun _ _ _ _ _ _ us hl => match us, hl with | [_, _, _], _ => rfl,
      g__law_kind := PySem.W.mg_of X G ga__law_kind,
      f__law_kind := f__law_kind,
      fd__law_kind := _,
      F__law_kind := fun_mk (st := s__law_kind) l__law_kind cc__law_kind k__law_kind,
      b__law_kind := (fun_mk (st := s__law_kind) l__law_kind cc__law_kind k__law_kind).binds (ps := ["value"]) fun _ _ _ _ _ _ us hl => match us, hl with | [_], _ => rfl,
      g__law_same := PySem.W.mg_of X G ga__law_same,
      f__law_same := f__law_same,
      fd__law_same := _,
      F__law_same := fun_mk (st := s__law_same) l__law_same cc__law_same k__law_same,
      b__law_same := (fun_mk (st := s__law_same) l__law_same cc__law_same k__law_same).binds (ps := ["answer", "due"]) fun _ _ _ _ _ _ us hl => match us, hl with | [_, _], _ => rfl,
      g__law_text := PySem.W.mg_of X G ga__law_text,
      f__law_text := f__law_text,
      fd__law_text := _,
      F__law_text := fun_mk (st := s__law_text) l__law_text cc__law_text k__law_text,
      b__law_text := (fun_mk (st := s__law_text) l__law_text cc__law_text k__law_text).binds (ps := ["numbers", "at", "many"]) fun _ _ _ _ _ _ us hl => match us, hl with | [_, _, _], _ => rfl,
      g__law_plan := PySem.W.mg_of X G ga__law_plan,
      f__law_plan := f__law_plan,
      fd__law_plan := _,
      F__law_plan := fun_mk (st := s__law_plan) l__law_plan cc__law_plan k__law_plan,
      b__law_plan := (fun_mk (st := s__law_plan) l__law_plan cc__law_plan k__law_plan).binds (ps := ["numbers", "text"]) fun _ _ _ _ _ _ us hl => match us, hl with | [_, _], _ => rfl,
      g__law_in_order := PySem.W.mg_of X G ga__law_in_order,
      f__law_in_order := f__law_in_order,
      fd__law_in_order := _,
      F__law_in_order := fun_mk (st := s__law_in_order) l__law_in_order cc__law_in_order k__law_in_order,
      b__law_in_order := (fun_mk (st := s__law_in_order) l__law_in_order cc__law_in_order k__law_in_order).binds (ps := ["plan", "size"]) fun _ _ _ _ _ _ us hl => match us, hl with | [_, _], _ => rfl,
      g__law_after := PySem.W.mg_of X G ga__law_after,
      f__law_after := f__law_after,
      fd__law_after := _,
      F__law_after := fun_mk (st := s__law_after) l__law_after cc__law_after k__law_after,
      b__law_after := (fun_mk (st := s__law_after) l__law_after cc__law_after k__law_after).binds (ps := ["plan", "text"]) fun _ _ _ _ _ _ us hl => match us, hl with | [_, _], _ => rfl,
      g__law_undone := PySem.W.mg_of X G ga__law_undone,
      f__law_undone := f__law_undone,
      fd__law_undone := _,
      F__law_undone := fun_mk (st := s__law_undone) l__law_undone cc__law_undone k__law_undone,
      b__law_undone := (fun_mk (st := s__law_undone) l__law_undone cc__law_undone k__law_undone).binds (ps := ["plan", "text"]) fun _ _ _ _ _ _ us hl => match us, hl with | [_, _], _ => rfl,
      g__law_moved := PySem.W.mg_of X G ga__law_moved,
      f__law_moved := f__law_moved,
      fd__law_moved := _,
      F__law_moved := fun_mk (st := s__law_moved) l__law_moved cc__law_moved k__law_moved,
      b__law_moved := (fun_mk (st := s__law_moved) l__law_moved cc__law_moved k__law_moved).binds (ps := ["splice", "first", "last"]) fun _ _ _ _ _ _ us hl => match us, hl with | [_, _, _], _ => rfl,
      g__law_changed := PySem.W.mg_of X G ga__law_changed,
      f__law_changed := f__law_changed,
      fd__law_changed := _,
      F__law_changed := fun_mk (st := s__law_changed) l__law_changed cc__law_changed k__law_changed,
      b__law_changed := (fun_mk (st := s__law_changed) l__law_changed cc__law_changed k__law_changed).binds (ps := ["plan", "numbers", "at", "size"]) fun _ _ _ _ _ _ us hl => match us, hl with | [_, _, _, _], _ => rfl,
      g__law_made := PySem.W.mg_of X G ga__law_made,
      f__law_made := f__law_made,
      fd__law_made := _,
      F__law_made := fun_mk (st := s__law_made) l__law_made cc__law_made k__law_made,
      b__law_made := (fun_mk (st := s__law_made) l__law_made cc__law_made k__law_made).binds (ps := ["plan"]) fun _ _ _ _ _ _ us hl => match us, hl with | [_], _ => rfl,
      g__law_told := PySem.W.mg_of X G ga__law_told,
      f__law_told := f__law_told,
      fd__law_told := _,
      F__law_told := fun_mk (st := s__law_told) l__law_told cc__law_told k__law_told,
      b__law_told := (fun_mk (st := s__law_told) l__law_told cc__law_told k__law_told).binds (ps := ["splices"]) fun _ _ _ _ _ _ us hl => match us, hl with | [_], _ => rfl,
      g__law_refused := PySem.W.mg_of X G ga__law_refused,
      f__law_refused := f__law_refused,
      fd__law_refused := _,
      F__law_refused := fun_mk (st := s__law_refused) l__law_refused cc__law_refused k__law_refused,
      b__law_refused := (fun_mk (st := s__law_refused) l__law_refused cc__law_refused k__law_refused).binds (ps := ["splices", "text", "back"]) fun _ _ _ _ _ _ us hl => match us, hl with | [_, _, _], _ => rfl,
      g__law_fits := PySem.W.mg_of X G ga__law_fits,
      f__law_fits := f__law_fits,
      fd__law_fits := _,
      F__law_fits := fun_mk (st := s__law_fits) l__law_fits cc__law_fits k__law_fits,
      b__law_fits := (fun_mk (st := s__law_fits) l__law_fits cc__law_fits k__law_fits).binds (ps := ["plan", "text"]) fun _ _ _ _ _ _ us hl => match us, hl with | [_, _], _ => rfl,
      g_law := PySem.W.mg_of X G ga_law,
      f_law := f_law,
      fd_law := _,
      F_law := fun_mk (st := s_law) l_law cc_law k_law,
      b_law := (fun_mk (st := s_law) l_law cc_law k_law).binds (ps := ["script"]) fun _ _ _ _ _ _ us hl => match us, hl with | [_], _ => rfl,
      bt_law := fun s v => .of_eq rfl,
      z_ValueError := PySem.W.mg_none_of X G zz_ValueError,
      z_abs := PySem.W.mg_none_of X G zz_abs,
      z_bool := PySem.W.mg_none_of X G zz_bool,
      z_int := PySem.W.mg_none_of X G zz_int,
      z_isinstance := PySem.W.mg_none_of X G zz_isinstance,
      z_len := PySem.W.mg_none_of X G zz_len,
      z_list := PySem.W.mg_none_of X G zz_list,
      z_min := PySem.W.mg_none_of X G zz_min,
      z_range := PySem.W.mg_none_of X G zz_range,
      z_sorted := PySem.W.mg_none_of X G zz_sorted,
      z_str := PySem.W.mg_none_of X G zz_str,
      z_tuple := PySem.W.mg_none_of X G zz_tuple,
      ks_str := ks_str,
      ks_tup := ks_tup,
      ss_str := ss_str,
      ss_tup := ss_tup,
      fi_Splice := fi_Splice,
      ecg := ecg,
      eck := eck,
      ecd := ecd,
      eca := eca,
      ecm := ecm,
      em_bl := em_bl,
      kv_bs := kv_bs }, rfl⟩
end K45
namespace K45
open PySem PySem.Spec PyProof.Rows L2
local macro_rules | `(tactic| walk_at "con") => `(tactic| first | with_reducible refine Gx.conE K45.ks0 ?_ | with_reducible refine Gx.conE K45.ks1 ?_ | with_reducible refine Gx.conE K45.ks2 ?_ | with_reducible refine Gx.conE K45.ks3 ?_ | with_reducible refine Gx.conE K45.ks4 ?_ | with_reducible refine Gx.conE K45.ks5 ?_ | with_reducible refine Gx.conE K45.ks6 ?_ | with_reducible refine Gx.conE K45.ks7 ?_ | with_reducible refine Gx.conE K45.ks8 ?_ | with_reducible refine Gx.conE K45.ks9 ?_ | with_reducible refine Gx.conE K45.ks10 ?_)
section
variable {P : Program} {w : World} {K : PySem.W.Frag} {mg : Str → Option Value} {base : Heap}
def mix (cell k : Int) : Int :=
  ((((cell * 48271 + k * 7919 + 101) % 2147483647) * ((cell * 48271 + k * 7919 + 101) % 2147483647) + 31 * ((cell * 48271 + k * 7919 + 101) % 2147483647) + k * k * 17) % 1000000007 * 69621 + 5) % 2147483647 / 7
def sp_mix : Sp := fun vs H Q _ => ∃ (c k : Int), vs = [.int c, .int k] ∧ 0 ≤ k ∧ k < 10000 ∧ Q (.int (mix c k)) H
theorem G__law_mix (T : Txt K mg) : FnOk P w K mg base CX0 1 T.f__law_mix T.fd__law_mix ["cell", "k"] sp_mix := by
  refine T.F__law_mix.ok sc__law_mix (fun vs H Q E h => ?_) (fun cdv A outer s H vs Q E hr h => ?_)
  · obtain ⟨c, k, rfl, _⟩ := h
    rfl
  · obtain ⟨c, k, rfl, h0, h1, q⟩ := h
    refine ⟨_, ((pss_cons (ps_set (i := 2) sc__law_mix.nd rfl (Or.inl rfl) (pe_op op_mod (pe_op op_add (pe_op op_add (pe_op op_mul (pe_callTy Gx.cr_int1 (by rfl) T.z_int bt_int (pa_cons (pv 0) pa_nil)) pe_int) (pe_op op_mul (pv 1) pe_int)) pe_int) pe_int))
  (pss_cons (ps_set (i := 3) sc__law_mix.nd rfl (Or.inl rfl) (pe_op op_mod (pe_op op_add (pe_op op_add (pe_op op_mul (pv 2) (pv 2)) (pe_op op_mul pe_int (pv 2))) (pe_op op_mul (pe_op op_mul (pv 1) (pv 1)) pe_int)) pe_int))
  (pss_one (ps_ret (pe_op op_fdiv (pe_op op_mod (pe_op op_add (pe_op op_mul (pv 3) pe_int) pe_int) pe_int) pe_int)))))), ?_⟩
    rw [st__law_mix]
    walk_at "g"
    exact q
/-- a digit -/
def Dig (xs : List Int) : Prop := ∀ x ∈ xs, 0 ≤ x ∧ x < 60
theorem Dig.snoc {xs : List Int} {z : Int} (h : Dig xs) (a : 0 ≤ z) (b : z < 60) : Dig (xs ++ [z]) := fun x hx => by
  rcases List.mem_append.mp hx with h1 | h1
  · exact h x h1
  · cases List.mem_singleton.mp h1
    exact ⟨a, b⟩
def sp_stream (K : PySem.W.Frag) : Sp := fun vs H Q _ => ∃ (a : Addr) (ns : List Int) (many : Int), vs = [.ref a, .int many] ∧ SqL K H a (ns.map V.int) ∧ ns.length ≤ 63 ∧ 0 ≤ many ∧ many ≤ 1000 ∧
  ∀ H' p xs, Same H H' → H p = none → H' p = some (.lst (xs.map V.int)) → (xs.length : Int) = many → Dig xs → Q (.ref p) H'
theorem G__law_stream (T : Txt K mg) : FnOk P w K mg base CX0 2 T.f__law_stream T.fd__law_stream ["script", "many"] (sp_stream K) := by
  have G__law_mix := G__law_mix (P := P) (w := w) (base := base) T
  refine T.F__law_stream.ok sc__law_stream (fun vs H Q E h => ?_) (fun cdv A outer s H vs Q E hr h => ?_)
  · obtain ⟨a, ns, many, rfl, _⟩ := h
    rfl
  · obtain ⟨a, ns, many, rfl, hS, hlen, h0, h1, q⟩ := h
    refine ⟨_, ((pss_cons (ps_set (i := 2) sc__law_stream.nd rfl (Or.inl rfl) pe_int)
  (C8.pss_cut (ps_if (pt_cmpR op_gt (pe_callB Gx.cr_lenQ (by rfl) T.z_len bt_len (pa_cons (pv 0) pa_nil)) pe_int (nomark _))
  (pss_one (ps_set (i := 2) sc__law_stream.nd rfl (Or.inl rfl) (pe_callB Gx.cr_abs (by rfl) T.z_abs bt_abs (pa_cons (pe_callTy Gx.cr_int1 (by rfl) T.z_int bt_int (pa_cons (pe_ix ix_list (pv 0) pe_int (fun _ _ => rfl)) pa_nil)) pa_nil))))
  pss_nil)
  (C8.pss_cut (ps_if (pt_cmpR op_lt (pv 2) (pe_op op_pow pe_int pe_int) (nomark _))
  (pss_one (ps_set (i := 2) sc__law_stream.nd rfl (Or.inl rfl) pe_int))
  pss_nil)
  (pss_cons (ps_set (i := 3) sc__law_stream.nd rfl (Or.inl rfl) (pe_lst pa_nil))
  (pss_cons (ps_for PassesOwn.never rfl (pi_range1 rfl T.z_range (pa_cons (pv 1) pa_nil)) (pg_name (i := 4) sc__law_stream.nd rfl (Or.inl rfl))
  (pss_one (ps_if (pt_cmpR op_gt (pv 2) pe_int (nomark _))
  (pss_cons (ps_expr (pe_bm PySem.F.plainAttrs_list PySem.F.slot_list_append PySem.F.type_list_append mt_append (pv 3) (pa_cons (pe_op op_mod (pv 2) pe_int) pa_nil)))
  (pss_one (ps_set (i := 2) sc__law_stream.nd rfl (Or.inl rfl) (pe_op op_fdiv (pv 2) pe_int))))
  (pss_cons (ps_set (i := 5) sc__law_stream.nd rfl (Or.inl rfl) pe_int)
  (C8.pss_cut (ps_if (pt_cmpR op_gt (pe_callB Gx.cr_lenQ (by rfl) T.z_len bt_len (pa_cons (pv 0) pa_nil)) pe_int (nomark _))
  (pss_one (ps_set (i := 5) sc__law_stream.nd rfl (Or.inl rfl) (pe_ix ix_list (pv 0) (pe_op op_mod (pv 4) (pe_callB Gx.cr_lenQ (by rfl) T.z_len bt_len (pa_cons (pv 0) pa_nil))) (fun _ _ => rfl))))
  pss_nil)
  (pss_one (ps_expr (pe_bm PySem.F.plainAttrs_list PySem.F.slot_list_append PySem.F.type_list_append mt_append (pv 3) (pa_cons (pe_op op_mod (pe_call G__law_mix (hr.mono (by first | decide | omega)) (by rfl) T.g__law_mix T.F__law_mix.kp T.b__law_mix .nil pass0 (pa_cons (pv 5) (pa_cons (pv 4) pa_nil))) pe_int) pa_nil)))))))))
  (pss_one (ps_ret (pv 3))))))))), ?_⟩
    rw [st__law_stream]
    try dsimp only [cxOf]
    walk_at "g"
    have hS' : ∀ H', Same H H' → SqL K H' a (ns.map V.int) := fun H' e => e.seq hS
    -- the first cell
    refine ⟨fun σ H1 => ∃ rest : Int, 0 ≤ rest ∧ H1 = H ∧ σ = [some (.ref a), some (.int many), some (.int rest), none, none, none], ?_, ?_⟩
    · walk_at "g"
      refine Gx.iteD (fun e => ?_) (fun e => ?_)
      · walk_at "g"
        exact ⟨_, by split <;> omega, rfl, rfl⟩
      · walk_at "g"
        exact ⟨0, by omega, rfl, rfl⟩
    · rintro σ H1 ⟨rest, hr0, rfl, rfl⟩
      walk_at "g"
      refine ⟨fun σ H2 => ∃ rest : Int, 0 ≤ rest ∧ H2 = H1 ∧ σ = [some (.ref a), some (.int many), some (.int rest), none, none, none], ?_, ?_⟩
      · walk_at "g"
        refine Gx.iteD (fun e => ?_) (fun e => ?_)
        · walk_at "g"
          exact ⟨0, by omega, rfl, rfl⟩
        · walk_at "g"
          exact ⟨rest, hr0, rfl, rfl⟩
      · rintro σ H2 ⟨rest, hr0, rfl, rfl⟩
        walk_at "g"
        refine Gx.newD (by decide) (fun p H3 E3 => ?_)
        walk_at "g"
        refine ⟨_, rfl, by omega, by omega, for_range (fun i σ H4 => ∃ (rest : Int) (y z : Option V) (xs : List Int), 0 ≤ rest ∧ σ = [some (.ref a), some (.int many), some (.int rest), some (.ref p), y, z] ∧ Same H2 H4 ∧
          H4 p = some (.lst (xs.map V.int)) ∧ xs.length = i ∧ Dig xs) ⟨rest, none, none, [], hr0, rfl, E3.same, E3.at_, rfl, fun x hx => by cases hx⟩ ?_ ?_⟩
        · rintro i σ H4 hi ⟨rest, y, z, xs, h2, rfl, s4, e4, l4, d4⟩
          walk_at "g"
          have hS4 : SqL K H4 a (ns.map V.int) := hS' _ s4
          refine Gx.iteD (fun e => ?_) (fun e => ?_)
          · walk_at "g"
            exact ⟨rest / 60, _, _, xs ++ [rest % 60], by omega, rfl, Gx.Same.put s4 E3.fresh, upd_same, by simp [l4], d4.snoc (by omega) (by omega)⟩
          · walk_at "g"
            refine ⟨fun σ H5 => ∃ cell : Int, H5 = H4 ∧ σ = [some (.ref a), some (.int many), some (.int rest), some (.ref p), some (.int (0 + i)), some (.int cell)], ?_, ?_⟩
            · walk_at "g"
              refine Gx.iteD (fun e => ?_) (fun e => ?_)
              · walk_at "g"
                exact ⟨_, rfl, rfl⟩
              · walk_at "g"
                exact ⟨_, rfl, rfl⟩
            · rintro σ H5 ⟨cell, rfl, rfl⟩
              walk_at "g"
              refine ⟨_, _, rfl, by omega, by omega, ?_⟩
              walk_at "g"
              exact ⟨rest, _, _, xs ++ [mix cell (0 + i) % 60], by omega, rfl, Gx.Same.put s4 E3.fresh, upd_same, by simp [l4], d4.snoc (by omega) (by omega)⟩
        · rintro σ H4 ⟨rest, y, z, xs, h2, rfl, s4, e4, l4, d4⟩
          walk_at "g"
          exact q H4 p xs s4 E3.fresh e4 (by omega) d4
def pick (xs : List Int) (at_ many : Int) : Int := xs.getD (at_ % xs.length).toNat 0 % many
theorem pick_0 (xs : List Int) (a : Int) {m : Int} (h : 0 < m) : 0 ≤ pick xs a m := Int.emod_nonneg _ (by omega)
theorem pick_lt (xs : List Int) (a : Int) {m : Int} (h : 0 < m) : pick xs a m < m := Int.emod_lt_of_pos _ h
def sp_pick (K : PySem.W.Frag) : Sp := fun vs H Q _ => ∃ (a : Addr) (xs : List Int) (i m : Int), vs = [.ref a, .int i, .int m] ∧ SqL K H a (xs.map V.int) ∧ 0 < xs.length ∧ 0 < m ∧ Q (.int (pick xs i m)) H
theorem G__law_pick (T : Txt K mg) : FnOk P w K mg base CX0 1 T.f__law_pick T.fd__law_pick ["numbers", "at", "many"] (sp_pick K) := by
  refine T.F__law_pick.ok sc__law_pick (fun vs H Q E h => ?_) (fun cdv A outer s H vs Q E hr h => ?_)
  · obtain ⟨a, ns, i, m, rfl, _⟩ := h
    rfl
  · obtain ⟨a, xs, i, m, rfl, hS, hl, hm, q⟩ := h
    refine ⟨_, ((pss_one (ps_ret (pe_op op_mod (pe_callTy Gx.cr_int1 (by rfl) T.z_int bt_int (pa_cons (pe_ix ix_list (pv 0) (pe_op op_mod (pe_callTy Gx.cr_int1 (by rfl) T.z_int bt_int (pa_cons (pv 1) pa_nil)) (pe_callB Gx.cr_lenQ (by rfl) T.z_len bt_len (pa_cons (pv 0) pa_nil))) (fun _ _ => rfl)) pa_nil)) (pv 2))))), ?_⟩
    rw [st__law_pick]
    try dsimp only [cxOf]
    walk_at "g"
    exact q
def wide (xs : List Int) (i m : Int) : Int := (pick xs i 60 * 60 + pick xs (i + 1) 60) % m
theorem wide_0 (xs : List Int) (a : Int) {m : Int} (h : 0 < m) : 0 ≤ wide xs a m := Int.emod_nonneg _ (by omega)
theorem wide_lt (xs : List Int) (a : Int) {m : Int} (h : 0 < m) : wide xs a m < m := Int.emod_lt_of_pos _ h
def sp_wide (K : PySem.W.Frag) : Sp := fun vs H Q _ => ∃ (a : Addr) (xs : List Int) (i m : Int), vs = [.ref a, .int i, .int m] ∧ SqL K H a (xs.map V.int) ∧ 0 < xs.length ∧ 0 < m ∧ Q (.int (wide xs i m)) H
theorem G__law_wide (T : Txt K mg) : FnOk P w K mg base CX0 2 T.f__law_wide T.fd__law_wide ["numbers", "at", "many"] (sp_wide K) := by
  have G__law_pick := G__law_pick (P := P) (w := w) (base := base) T
  refine T.F__law_wide.ok sc__law_wide (fun vs H Q E h => ?_) (fun cdv A outer s H vs Q E hr h => ?_)
  · obtain ⟨a, ns, i, m, rfl, _⟩ := h
    rfl
  · obtain ⟨a, xs, i, m, rfl, hS, hl, hm, q⟩ := h
    refine ⟨_, ((pss_one (ps_ret (pe_op op_mod (pe_callTy Gx.cr_int1 (by rfl) T.z_int bt_int (pa_cons (pe_op op_add (pe_op op_mul (pe_call G__law_pick (hr.mono (by first | decide | omega)) (by rfl) T.g__law_pick T.F__law_pick.kp T.b__law_pick .nil pass0 (pa_cons (pv 0) (pa_cons (pv 1) (pa_cons pe_int pa_nil)))) pe_int) (pe_call G__law_pick (hr.mono (by first | decide | omega)) (by rfl) T.g__law_pick T.F__law_pick.kp T.b__law_pick .nil pass0 (pa_cons (pv 0) (pa_cons (pe_op op_add (pv 1) pe_int) (pa_cons pe_int pa_nil))))) pa_nil)) (pv 2))))), ?_⟩
    rw [st__law_wide]
    try dsimp only [cxOf]
    walk_at "g"
    refine ⟨a, xs, _, _, rfl, hS, hl, by omega, ?_⟩
    walk_at "g"
    refine ⟨a, xs, _, _, rfl, hS, hl, by omega, ?_⟩
    walk_at "g"
    exact q
def sgn (i : Int) : Nat := [58, 59, 97, 98, 99].getD i.toNat 0
def txtL (xs : List Int) (i : Int) (n : Nat) : List Nat := (List.range n).map fun k => sgn (pick xs (i + (k : Nat)) 5)
theorem txtL_len (xs : List Int) (i : Int) (n : Nat) : (txtL xs i n).length = n := by simp [txtL]
def sp_text (K : PySem.W.Frag) : Sp := fun vs H Q _ => ∃ (a : Addr) (xs : List Int) (i m : Int), vs = [.ref a, .int i, .int m] ∧ SqL K H a (xs.map V.int) ∧ 0 < xs.length ∧ 0 ≤ m ∧ m ≤ 1000 ∧ ∀ H', Same H H' → Q (.str (Gx.mkS (txtL xs i m.toNat))) H'
theorem G__law_text (T : Txt K mg) : FnOk P w K mg base CX0 2 T.f__law_text T.fd__law_text ["numbers", "at", "many"] (sp_text K) := by
  have G__law_pick := G__law_pick (P := P) (w := w) (base := base) T
  refine T.F__law_text.ok sc__law_text (fun vs H Q E h => ?_) (fun cdv A outer s H vs Q E hr h => ?_)
  · obtain ⟨a, ns, i, m, rfl, _⟩ := h
    rfl
  · obtain ⟨a, xs, i, m, rfl, hS, hl, hm, hm2, q⟩ := h
    refine ⟨_, ((pss_one (ps_ret (Gx.pe_joinG pe_str (pe_lc (own := [("k", 3)]) (g := gName 3) (tt := tYes) (by rfl) sc__law_text.nd (pi_range1 rfl T.z_range (pa_cons (pv 2) pa_nil)) (blkOk_by (N := ["numbers", "at", "many", "k"]) (sc := defScope s__law_text) (by decide +kernel)) (fun _ _ _ _ _ => (pg_name (i := 3) sc__law_text.nd rfl (Or.inl rfl))) (fun _ _ _ _ _ => pts_nil) (fun _ _ _ _ _ => (pe_ix ix_str pe_str (pe_call G__law_pick (hr.mono (by first | decide | omega)) (by rfl) T.g__law_pick T.F__law_pick.kp T.b__law_pick .nil pass0 (pa_cons (pv 0) (pa_cons (pe_op op_add (pv 1) (pv 3)) (pa_cons pe_int pa_nil)))) (fun _ _ => rfl)))))))), ?_⟩
    rw [st__law_text]
    try dsimp only [cxOf]
    walk_at "g"
    refine ⟨_, rfl, by omega, by omega, fun D nD => lc_range (fun j H1 => Same H H1 ∧ H1 D = some (.lst (((((List.range j).map fun k => [sgn (pick xs (i + (k : Nat)) 5)])).map Gx.mkS).map V.str)))
      ⟨Gx.Same.put (Same.refl H) nD, upd_same⟩ ?_ ?_⟩
    · rintro j H1 hj ⟨s1, e1⟩
      have hS1 : SqL K H1 a (xs.map V.int) := s1.seq hS
      walk_at "g"
      refine ⟨rfl, ?_⟩
      walk_at "g"
      refine ⟨a, xs, _, _, rfl, hS1, hl, by omega, ?_⟩
      have b0 := pick_0 xs (i + (0 + (j : Int))) (m := 5) (by omega)
      have b1 := pick_lt xs (i + (0 + (j : Int))) (m := 5) (by omega)
      walk_at "g"
      refine ⟨_, e1, Gx.lineL (by simp; omega), Gx.Same.put s1 nD, ?_⟩
      rw [upd_same, List.range_succ, List.map_append, List.map_append, List.map_append, Int.zero_add]
      rfl
    · rintro H1 ⟨s1, e1⟩
      have ef : ((List.range m.toNat).map fun k => [sgn (pick xs (i + (k : Nat)) 5)]).flatten = txtL xs i m.toNat := by
        unfold txtL
        induction (List.range m.toNat) with
        | nil => rfl
        | cons x r ih => rw [List.map_cons, List.map_cons, List.flatten_cons, ih]; rfl
      refine Gx.join0 (SqL.of e1) ?_ ?_
      · rw [ef, txtL_len]
        omega
      · rw [ef]
        exact q H1 s1
end
end K45
namespace K45
open PySem PySem.Spec PyProof.Rows L2
local macro_rules | `(tactic| walk_at "con") => `(tactic| first | with_reducible refine Gx.conE K45.ks0 ?_ | with_reducible refine Gx.conE K45.ks1 ?_ | with_reducible refine Gx.conE K45.ks2 ?_ | with_reducible refine Gx.conE K45.ks3 ?_ | with_reducible refine Gx.conE K45.ks4 ?_ | with_reducible refine Gx.conE K45.ks5 ?_ | with_reducible refine Gx.conE K45.ks6 ?_ | with_reducible refine Gx.conE K45.ks7 ?_ | with_reducible refine Gx.conE K45.ks8 ?_ | with_reducible refine Gx.conE K45.ks9 ?_ | with_reducible refine Gx.conE K45.ks10 ?_)
section
variable {P : Program} {w : World} {K : PySem.W.Frag} {mg : Str → Option Value} {base : Heap}
def flds (s e : Int) (n : List Nat) : List (Str × V) := [(Str.ofString "start", .int s), (Str.ofString "end", .int e), (Str.ofString "new", .str (Gx.mkS n))]
theorem lk_start (s e : Int) (n : List Nat) : (flds s e n).lookup (Str.ofString "start") = some (.int s) := rfl
theorem lk_end (s e : Int) (n : List Nat) : (flds s e n).lookup (Str.ofString "end") = some (.int e) := rfl
theorem lk_new (s e : Int) (n : List Nat) : (flds s e n).lookup (Str.ofString "new") = some (.str (Gx.mkS n)) := rfl
theorem put3 (a b : Int) (c : List Nat) : putF (Str.ofString "new") (.str (Gx.mkS c)) (putF (Str.ofString "end") (.int b) (putF (Str.ofString "start") (.int a) [])) = flds a b c := rfl
def SpAt (C : Addr) (H : Hp) (p : Addr) (s e : Int) (n : List Nat) : Prop := ∃ dx, H p = some (.ins C dx (flds s e n))
theorem SpAt.same {C : Addr} {H H' : Hp} {p : Addr} {s e : Int} {n : List Nat} (h : SpAt C H p s e n) (k : Same H H') : SpAt C H' p s e n := let ⟨dx, q⟩ := h; ⟨dx, k _ _ q⟩
def sp_init (C : Addr) : Sp := fun vs H Q _ => ∃ (p dx : Addr) (s e : Int) (n : List Nat), vs = [.ref p, .int s, .int e, .str (Gx.mkS n)] ∧ H p = some (.ins C dx []) ∧
  ∀ H', H' p = some (.ins C dx (flds s e n)) → (∀ b, b ≠ p → H' b = H b) → Q .non H'
theorem G_Splice_init (T : Txt K mg) : FnOk P w K mg base CX0 1 T.f_Splice_init T.fd_Splice_init ["self", "start", "end", "new"] (sp_init T.a_Splice) := by
  refine T.F_Splice_init.ok sc_Splice_init (fun vs H Q E h => ?_) (fun cdv A outer s H vs Q E hr h => ?_)
  · obtain ⟨p, dx, s, e, n, rfl, _⟩ := h
    rfl
  · obtain ⟨p, dx, s, e, n, rfl, hp, q⟩ := h
    refine ⟨_, ((pss_cons (ps_fld (pv 0) (pv 1) rfl)
  (pss_cons (ps_fld (pv 0) (pv 2) rfl)
  (pss_one (ps_fld (pv 0) (pv 3) rfl))))), ?_⟩
    rw [st_Splice_init]
    try dsimp only [cxOf]
    walk_at "g"
    refine ⟨p, T.a_Splice, dx, _, rfl, hp, T.c_Splice, T.n_Splice_start, by decide, ?_⟩
    walk_at "g"
    refine ⟨p, T.a_Splice, dx, _, rfl, upd_same, T.c_Splice, T.n_Splice_end, (by show 1 < 1000; decide), ?_⟩
    walk_at "g"
    refine ⟨p, T.a_Splice, dx, _, rfl, upd_same, T.c_Splice, T.n_Splice_new, (by show 2 < 1000; decide), ?_⟩
    walk_at "g"
    refine q _ ?_ ?_
    · rw [upd_same, put3]
    · intro b hb
      rw [upd_ne hb, upd_ne hb, upd_ne hb]
def sp_longer (C : Addr) : Sp := fun vs H Q _ => ∃ (p : Addr) (s e : Int) (n : List Nat), vs = [.ref p] ∧ SpAt C H p s e n ∧ n.length ≤ 10000 ∧ Q (.int (n.length - (e - s))) H
theorem G_Splice_longer (T : Txt K mg) : FnOk P w K mg base CX0 1 T.f_Splice_longer T.fd_Splice_longer ["self"] (sp_longer T.a_Splice) := by
  refine T.F_Splice_longer.ok sc_Splice_longer (fun vs H Q E h => ?_) (fun cdv A outer s H vs Q E hr h => ?_)
  · obtain ⟨p, s, e, n, rfl, _⟩ := h
    rfl
  · obtain ⟨p, s, e, n, rfl, ⟨dx, hp⟩, hn, q⟩ := h
    refine ⟨_, ((pss_one (ps_ret (pe_op op_sub (pe_callB Gx.cr_lenS (by rfl) T.z_len bt_len (pa_cons (pe_fld (pv 0) rfl) pa_nil)) (pe_op op_sub (pe_fld (pv 0) rfl) (pe_fld (pv 0) rfl)))))), ?_⟩
    rw [st_Splice_longer]
    try dsimp only [cxOf]
    walk_at "g"
    refine ⟨p, T.a_Splice, dx, _, _, rfl, hp, T.c_Splice, T.n_Splice_new, lk_new _ _ _, ?_⟩
    walk_at "g"
    refine ⟨p, T.a_Splice, dx, _, _, rfl, hp, T.c_Splice, T.n_Splice_end, lk_end _ _ _, ?_⟩
    walk_at "g"
    refine ⟨p, T.a_Splice, dx, _, _, rfl, hp, T.c_Splice, T.n_Splice_start, lk_start _ _ _, ?_⟩
    walk_at "g"
    exact q
def Fits (s e : Int) (l : List Nat) : Prop := 0 ≤ s ∧ s ≤ e ∧ e ≤ l.length
instance (s e : Int) (l : List Nat) : Decidable (Fits s e l) := by unfold Fits; infer_instance
def sp_fits (C : Addr) : Sp := fun vs H Q _ => ∃ (p : Addr) (s e : Int) (n l : List Nat), vs = [.ref p, .str (Gx.mkS l)] ∧ SpAt C H p s e n ∧ l.length ≤ 10000 ∧ Q (.bl (decide (Fits s e l))) H
theorem G_Splice_fits (T : Txt K mg) : FnOk P w K mg base CX0 1 T.f_Splice_fits T.fd_Splice_fits ["self", "text"] (sp_fits T.a_Splice) := by
  refine T.F_Splice_fits.ok sc_Splice_fits (fun vs H Q E h => ?_) (fun cdv A outer s H vs Q E hr h => ?_)
  · obtain ⟨p, s, e, n, l, rfl, _⟩ := h
    rfl
  · obtain ⟨p, s, e, n, l, rfl, ⟨dx, hp⟩, hn, q⟩ := h
    refine ⟨_, ((pss_one (ps_ret (pe_and (pe_cmpR op_le pe_int (pe_fld (pv 0) rfl) (nomark _)) (pe_and (pe_cmpR op_le (pe_fld (pv 0) rfl) (pe_fld (pv 0) rfl) (nomark _)) (pe_one (pe_cmpR op_le (pe_fld (pv 0) rfl) (pe_callB Gx.cr_lenS (by rfl) T.z_len bt_len (pa_cons (pv 1) pa_nil)) (nomark _)))))))), ?_⟩
    rw [st_Splice_fits]
    try dsimp only [cxOf]
    walk_at "g"
    refine ⟨p, T.a_Splice, dx, _, _, rfl, hp, T.c_Splice, T.n_Splice_start, lk_start _ _ _, ?_⟩
    walk_at "g"
    refine Gx.iteD (fun h1 => ?_) (fun h1 => ?_)
    · walk_at "g"
      refine ⟨p, T.a_Splice, dx, _, _, rfl, hp, T.c_Splice, T.n_Splice_start, lk_start _ _ _, ?_⟩
      walk_at "g"
      refine ⟨p, T.a_Splice, dx, _, _, rfl, hp, T.c_Splice, T.n_Splice_end, lk_end _ _ _, ?_⟩
      walk_at "g"
      refine Gx.iteD (fun h2 => ?_) (fun h2 => ?_)
      · walk_at "g"
        refine ⟨p, T.a_Splice, dx, _, _, rfl, hp, T.c_Splice, T.n_Splice_end, lk_end _ _ _, ?_⟩
        walk_at "g"
        rw [show decide (e ≤ (l.length : Int)) = decide (Fits s e l) from decide_eq_decide.mpr ⟨fun h => ⟨h1, h2, h⟩, fun h => h.2.2⟩]
        exact q
      · walk_at "g"
        rw [show decide (Fits s e l) = false from decide_eq_false fun h => h2 h.2.1] at q
        exact q
    · walk_at "g"
      rw [show decide (Fits s e l) = false from decide_eq_false fun h => h1 h.1] at q
      exact q
def sp_call (C B : Addr) : Sp := fun vs H Q E => ∃ (p : Addr) (s e : Int) (n l : List Nat), vs = [.ref p, .str (Gx.mkS l)] ∧ SpAt C H p s e n ∧ l.length ≤ 10000 ∧ n.length ≤ 10000 ∧
  (Fits s e l → Q (.str (Gx.mkS (l.take s.toNat ++ n ++ l.drop e.toNat))) H) ∧ (¬ Fits s e l → E (.ref B) none H)
theorem G_Splice_call (T : Txt K mg) : FnOk P w K mg base (L2.CX P w) 2 T.f_Splice_call T.fd_Splice_call ["self", "text"] (sp_call T.a_Splice T.a_BadSplice) := by
  have G_Splice_fits := G_Splice_fits (P := P) (w := w) (base := base) T
  refine T.F_Splice_call.okX sc_Splice_call (fun vs H Q E h => ?_) (fun cdv A outer s H vs Q E hr h => ?_)
  · obtain ⟨p, s, e, n, l, rfl, _⟩ := h
    rfl
  · obtain ⟨p, s, e, n, l, rfl, ⟨dx, hp⟩, hl, hn, q1, q2⟩ := h
    refine ⟨_, ((pss_cons (ps_if (pt_not (pt_val (pe_meth (pv 0) T.c_Splice T.m_Splice_fits G_Splice_fits (hr.mono (by first | decide | omega)) T.b_Splice_fits .nil pass0 (pa_cons (pv 1) pa_nil))))
  (pss_one (ps_raise rfl (takes_of rfl rfl rfl rfl) (Gx.pmk_own0 PySem.F.excBase_ValueError T.x_BadSplice T.g_BadSplice T.k_BadSplice (raises_own T.bP_BadSplice T.tP_BadSplice) rfl)))
  pss_nil)
  (pss_one (ps_ret (pe_op Gx.op_addS (pe_op Gx.op_addS (pe_slice sl_str (pv 1) po_none (po_some (pe_fld (pv 0) rfl))) (pe_fld (pv 0) rfl)) (pe_slice sl_str (pv 1) (po_some (pe_fld (pv 0) rfl)) po_none)))))), ?_⟩
    rw [st_Splice_call]
    try dsimp only [cxOf]
    walk_at "g"
    refine ⟨p, dx, _, rfl, hp, rfl, ?_⟩
    walk_at "g"
    refine ⟨p, s, e, n, l, rfl, ⟨dx, hp⟩, hl, ?_⟩
    walk_at "g"
    refine Gx.iteDn (fun hf => ?_) (fun hf => ?_)
    · exact q2 hf
    · obtain ⟨h1, h2, h3⟩ := id hf
      walk_at "g"
      refine ⟨p, T.a_Splice, dx, _, _, rfl, hp, T.c_Splice, T.n_Splice_start, lk_start _ _ _, ?_⟩
      walk_at "g"
      refine ⟨p, T.a_Splice, dx, _, _, rfl, hp, T.c_Splice, T.n_Splice_new, lk_new _ _ _, ?_⟩
      walk_at "g"
      refine ⟨p, T.a_Splice, dx, _, _, rfl, hp, T.c_Splice, T.n_Splice_end, lk_end _ _ _, ?_⟩
      walk_at "g"
      exact q1 hf
def sp_back (C B : Addr) : Sp := fun vs H Q E => ∃ (p : Addr) (s e : Int) (n l : List Nat), vs = [.ref p, .str (Gx.mkS l)] ∧ SpAt C H p s e n ∧ l.length ≤ 10000 ∧ n.length ≤ 10000 ∧
  (Fits s e l → ∀ H' q, Same H H' → SpAt C H' q s (s + n.length) ((l.take e.toNat).drop s.toNat) → Q (.ref q) H') ∧ (¬ Fits s e l → E (.ref B) none H)
theorem G_Splice_back (T : Txt K mg) : FnOk P w K mg base (L2.CX P w) 3 T.f_Splice_back T.fd_Splice_back ["self", "text"] (sp_back T.a_Splice T.a_BadSplice) := by
  have G_Splice_fits := G_Splice_fits (P := P) (w := w) (base := base) T
  have G_Splice_init := G_Splice_init (P := P) (w := w) (base := base) T
  refine T.F_Splice_back.okX sc_Splice_back (fun vs H Q E h => ?_) (fun cdv A outer s H vs Q E hr h => ?_)
  · obtain ⟨p, s, e, n, l, rfl, _⟩ := h
    rfl
  · obtain ⟨p, s, e, n, l, rfl, ⟨dx, hp⟩, hl, hn, q1, q2⟩ := h
    refine ⟨_, ((pss_cons (ps_if (pt_not (pt_val (pe_meth (pv 0) T.c_Splice T.m_Splice_fits G_Splice_fits (hr.mono (by first | decide | omega)) T.b_Splice_fits .nil pass0 (pa_cons (pv 1) pa_nil))))
  (pss_one (ps_raise rfl (takes_of rfl rfl rfl rfl) (Gx.pmk_own0 PySem.F.excBase_ValueError T.x_BadSplice T.g_BadSplice T.k_BadSplice (raises_own T.bP_BadSplice T.tP_BadSplice) rfl)))
  pss_nil)
  (pss_one (ps_ret (pe_make T.M_Splice G_Splice_init (hr.mono (by first | decide | omega)) (by rfl) T.g_Splice T.b_Splice_init .nil pass0 (pa_cons (pe_fld (pv 0) rfl) (pa_cons (pe_op op_add (pe_fld (pv 0) rfl) (pe_callB Gx.cr_lenS (by rfl) T.z_len bt_len (pa_cons (pe_fld (pv 0) rfl) pa_nil))) (pa_cons (pe_slice sl_str (pv 1) (po_some (pe_fld (pv 0) rfl)) (po_some (pe_fld (pv 0) rfl))) pa_nil)))))))), ?_⟩
    rw [st_Splice_back]
    try dsimp only [cxOf]
    walk_at "g"
    refine ⟨p, dx, _, rfl, hp, rfl, ?_⟩
    walk_at "g"
    refine ⟨p, s, e, n, l, rfl, ⟨dx, hp⟩, hl, ?_⟩
    walk_at "g"
    refine Gx.iteDn (fun hf => ?_) (fun hf => ?_)
    · exact q2 hf
    · obtain ⟨h1, h2, h3⟩ := id hf
      walk_at "g"
      refine ⟨p, T.a_Splice, dx, _, _, rfl, hp, T.c_Splice, T.n_Splice_start, lk_start _ _ _, ?_⟩
      walk_at "g"
      refine ⟨p, T.a_Splice, dx, _, _, rfl, hp, T.c_Splice, T.n_Splice_start, lk_start _ _ _, ?_⟩
      walk_at "g"
      refine ⟨p, T.a_Splice, dx, _, _, rfl, hp, T.c_Splice, T.n_Splice_new, lk_new _ _ _, ?_⟩
      walk_at "g"
      refine ⟨p, T.a_Splice, dx, _, _, rfl, hp, T.c_Splice, T.n_Splice_start, lk_start _ _ _, ?_⟩
      walk_at "g"
      refine ⟨p, T.a_Splice, dx, _, _, rfl, hp, T.c_Splice, T.n_Splice_end, lk_end _ _ _, ?_⟩
      walk_at "g"
      intro x dy nx ndy ne
      refine ⟨x, dy, _, _, _, rfl, upd_same, fun H' e1 e2 => ⟨rfl, ?_⟩⟩
      walk_at "g"
      exact q1 hf H' x (Gx.made_same nx ndy e2) ⟨dy, e1⟩
def sp_eq (K : PySem.W.Frag) (C : Addr) : Sp := fun vs H Q _ => ∃ (p : Addr) (y : V) (s e : Int) (n : List Nat), vs = [.ref p, y] ∧ SpAt C H p s e n ∧
  ((∃ (p2 : Addr) (s2 e2 : Int) (n2 : List Nat), y = .ref p2 ∧ SpAt C H p2 s2 e2 n2 ∧ Q (.bl (decide (s = s2 ∧ e = e2 ∧ n = n2))) H) ∨
   (∃ t : Value, TyX K H y t ∧ PySem.W.kitOne K t (.ref C) = some false ∧ Q (.bl false) H))
theorem G_Splice_eq (T : Txt K mg) : FnOk P w K mg base CX0 1 T.f_Splice_eq T.fd_Splice_eq ["self", "other"] (sp_eq K T.a_Splice) := by
  refine T.F_Splice_eq.ok sc_Splice_eq (fun vs H Q E h => ?_) (fun cdv A outer s H vs Q E hr h => ?_)
  · obtain ⟨p, y, s, e, n, rfl, _⟩ := h
    rfl
  · obtain ⟨p, y, s, e, n, rfl, ⟨dx, hp⟩, hq⟩ := h
    refine ⟨_, ((pss_cons (ps_if (pt_not (pt_val (pe_callB call_isi (by rfl) T.z_isinstance bt_isinstance (pa_cons (pv 1) (pa_cons (pe_glob (v := .ref T.a_Splice) rfl T.g_Splice rfl) pa_nil)))))
  (pss_one (ps_ret pe_bl))
  pss_nil)
  (pss_one (ps_ret (pe_and (pe_cmpR op_eq (pe_fld (pv 0) rfl) (pe_fld (pv 1) rfl) (nomark _)) (pe_and (pe_cmpR op_eq (pe_fld (pv 0) rfl) (pe_fld (pv 1) rfl) (nomark _)) (pe_one (pe_cmpR op_eq (pe_fld (pv 0) rfl) (pe_fld (pv 1) rfl) (nomark _))))))))), ?_⟩
    rw [st_Splice_eq]
    try dsimp only [cxOf]
    walk_at "g"
    have tyS : ∀ {p dx fs}, H p = some (.ins T.a_Splice dx fs) → TyX K H (.ref p) (.ref T.a_Splice) := fun h => .base (.ins h T.c_Splice T.ha_Splice T.hn_ T.htk_ T.hm_Splice)
    rcases hq with ⟨p2, s2, e2, n2, rfl, ⟨dx2, hp2⟩, q⟩ | ⟨t, ty, kt, q⟩
    · refine Gx.isi (.own _) (tyS hp2) (b := true) (by simp [PySem.W.kitOne]) ?_
      walk_at "g"
      refine ⟨p, T.a_Splice, dx, _, _, rfl, hp, T.c_Splice, T.n_Splice_start, lk_start _ _ _, ?_⟩
      walk_at "g"
      refine ⟨p2, T.a_Splice, dx2, _, _, rfl, hp2, T.c_Splice, T.n_Splice_start, lk_start _ _ _, ?_⟩
      walk_at "g"
      refine Gx.iteD (fun h1 => ?_) (fun h1 => ?_)
      · walk_at "g"
        refine ⟨p, T.a_Splice, dx, _, _, rfl, hp, T.c_Splice, T.n_Splice_end, lk_end _ _ _, ?_⟩
        walk_at "g"
        refine ⟨p2, T.a_Splice, dx2, _, _, rfl, hp2, T.c_Splice, T.n_Splice_end, lk_end _ _ _, ?_⟩
        walk_at "g"
        refine Gx.iteD (fun h2 => ?_) (fun h2 => ?_)
        · walk_at "g"
          refine ⟨p, T.a_Splice, dx, _, _, rfl, hp, T.c_Splice, T.n_Splice_new, lk_new _ _ _, ?_⟩
          walk_at "g"
          refine ⟨p2, T.a_Splice, dx2, _, _, rfl, hp2, T.c_Splice, T.n_Splice_new, lk_new _ _ _, ?_⟩
          walk_at "g"
          rw [show decide (s = s2 ∧ e = e2 ∧ n = n2) = decide (n = n2) from decide_eq_decide.mpr ⟨fun h => h.2.2, fun h => ⟨h1, h2, h⟩⟩] at q
          exact q
        · walk_at "g"
          rw [show decide (s = s2 ∧ e = e2 ∧ n = n2) = false from decide_eq_false fun h => h2 h.2.1] at q
          exact q
      · walk_at "g"
        rw [show decide (s = s2 ∧ e = e2 ∧ n = n2) = false from decide_eq_false fun h => h1 h.1] at q
        exact q
    · refine Gx.isi (.own _) ty kt ?_
      walk_at "g"
      exact q
end
end K45
namespace K45
open PySem PySem.Spec PyProof.Rows L2
local macro_rules | `(tactic| walk_at "con") => `(tactic| first | with_reducible refine Gx.conE K45.ks0 ?_ | with_reducible refine Gx.conE K45.ks1 ?_ | with_reducible refine Gx.conE K45.ks2 ?_ | with_reducible refine Gx.conE K45.ks3 ?_ | with_reducible refine Gx.conE K45.ks4 ?_ | with_reducible refine Gx.conE K45.ks5 ?_ | with_reducible refine Gx.conE K45.ks6 ?_ | with_reducible refine Gx.conE K45.ks7 ?_ | with_reducible refine Gx.conE K45.ks8 ?_ | with_reducible refine Gx.conE K45.ks9 ?_ | with_reducible refine Gx.conE K45.ks10 ?_)
section
variable {P : Program} {w : World} {K : PySem.W.Frag} {mg : Str → Option Value} {base : Heap}

/-- the promise of _law_kind, to a depth below n -/
def spK (K : PySem.W.Frag) : Nat → Sp
  | 0 => fun _ _ _ _ => False
  | n + 1 => fun vs H Q _ => ∃ (x : V) (d : PyData), vs = [x] ∧ Dp K H x d ∧ Gx.okD d = true ∧ PyData.depth d ≤ n ∧ ∀ H' y, Same H H' → Dp K H' y (Gx.kindD d) → Q y H'
theorem G__law_kind (T : Txt K mg) : ∀ n, FnOk P w K mg base CX0 n T.f__law_kind T.fd__law_kind ["value"] (spK K n)
  | 0 => ⟨fun _ _ _ _ h => h.elim, fun _ _ _ _ _ _ _ _ _ _ _ _ _ h => h.elim⟩
  | n + 1 => by
    have G__law_kind := G__law_kind T n
    refine T.F__law_kind.ok sc__law_kind (fun vs H Q E h => ?_) (fun cdv A outer s H vs Q E hr h => ?_)
    · obtain ⟨x, d, rfl, _⟩ := h
      rfl
    · obtain ⟨x, d, rfl, hx, ok, dp, q⟩ := h
      refine ⟨_, ((pss_cons (ps_if (pt_cmpR Gx.op_isNG (pv 0) pe_non (nomark _))
  (pss_one (ps_ret (pe_tup (pa_cons pe_str pa_nil))))
  pss_nil)
  (pss_cons (ps_if (pt_val (pe_callB call_isi (by rfl) T.z_isinstance bt_isinstance (pa_cons (pv 0) (pa_cons (pe_bltn (v := .ty "bool") rfl T.z_bool bt_bool rfl) pa_nil))))
  (pss_one (ps_ret (pe_tup (pa_cons pe_str (pa_cons (pe_callTy Gx.cr_strB (by rfl) T.z_str bt_str (pa_cons (pv 0) pa_nil)) pa_nil)))))
  pss_nil)
  (pss_cons (ps_if (pt_val (pe_callB call_isi (by rfl) T.z_isinstance bt_isinstance (pa_cons (pv 0) (pa_cons (pe_bltn (v := .ty "int") rfl T.z_int bt_int rfl) pa_nil))))
  (pss_one (ps_ret (pe_tup (pa_cons pe_str (pa_cons (pv 0) pa_nil)))))
  pss_nil)
  (pss_cons (ps_if (pt_val (pe_callB call_isi (by rfl) T.z_isinstance bt_isinstance (pa_cons (pv 0) (pa_cons (pe_bltn (v := .ty "str") rfl T.z_str bt_str rfl) pa_nil))))
  (pss_one (ps_ret (pe_tup (pa_cons pe_str (pa_cons (pv 0) pa_nil)))))
  pss_nil)
  (pss_cons (ps_if (pt_val (pe_callB call_isi (by rfl) T.z_isinstance bt_isinstance (pa_cons (pv 0) (pa_cons (pe_bltn (v := .ty "list") rfl T.z_list bt_list rfl) pa_nil))))
  (pss_one (ps_ret (pe_op op_catT (pe_tup (pa_cons pe_str pa_nil)) (pe_callTy Gx.cr_tupL (by rfl) T.z_tuple bt_tuple (pa_cons (pe_lc (own := [("item", 1)]) (g := gName 1) (tt := tYes) (by rfl) sc__law_kind.nd (pi_list (pv 0)) (blkOk_by (N := ["value", "item"]) (sc := defScope s__law_kind) (by decide +kernel)) (fun _ _ _ _ _ => (pg_name (i := 1) sc__law_kind.nd rfl (Or.inl rfl))) (fun _ _ _ _ _ => pts_nil) (fun _ _ _ _ _ => (pe_call G__law_kind (hr.mono (by first | decide | omega)) (by rfl) T.g__law_kind T.F__law_kind.kp T.b__law_kind .nil pass0 (pa_cons (pv 1) pa_nil)))) pa_nil)))))
  pss_nil)
  (pss_cons (ps_if (pt_val (pe_callB call_isi (by rfl) T.z_isinstance bt_isinstance (pa_cons (pv 0) (pa_cons (pe_bltn (v := .ty "tuple") rfl T.z_tuple bt_tuple rfl) pa_nil))))
  (pss_one (ps_ret (pe_op op_catT (pe_tup (pa_cons pe_str pa_nil)) (pe_callTy Gx.cr_tupL (by rfl) T.z_tuple bt_tuple (pa_cons (pe_lc (own := [("item", 1)]) (g := gName 1) (tt := tYes) (by rfl) sc__law_kind.nd (pi_tup (pv 0)) (blkOk_by (N := ["value", "item"]) (sc := defScope s__law_kind) (by decide +kernel)) (fun _ _ _ _ _ => (pg_name (i := 1) sc__law_kind.nd rfl (Or.inl rfl))) (fun _ _ _ _ _ => pts_nil) (fun _ _ _ _ _ => (pe_call G__law_kind (hr.mono (by first | decide | omega)) (by rfl) T.g__law_kind T.F__law_kind.kp T.b__law_kind .nil pass0 (pa_cons (pv 1) pa_nil)))) pa_nil)))))
  pss_nil)
  (pss_one (ps_ret (pe_tup (pa_cons pe_str pa_nil))))))))))), ?_⟩
      rw [st__law_kind]
      try dsimp only [cxOf]
      cases d with
      | none =>
        cases hx
        walk_at "g"
        refine ⟨Gx.line (by decide), fun p np => ?_⟩
        have E6 := Gx.ext1 (o := .tup [.str (Gx.mkS [110, 111, 110, 101])]) np
        exact q _ _ E6.same (.tup (SqT.of upd_same) (.cons (.str _) .nil))
      | bool b =>
        cases hx
        walk_at "g"
        refine ⟨Gx.line (by show 2 ≤ 16777216; decide), fun p np => ?_⟩
        exact q _ _ (Gx.ext1 np).same (.tup (SqT.of upd_same) (.cons (.str _) (.cons (.str _) .nil)))
      | int i =>
        cases hx
        walk_at "g"
        refine ⟨Gx.line (by show 2 ≤ 16777216; decide), fun p np => ?_⟩
        exact q _ _ (Gx.ext1 np).same (.tup (SqT.of upd_same) (.cons (.str _) (.cons (.int _) .nil)))
      | str z =>
        cases hx
        walk_at "g"
        refine ⟨Gx.line (by show 2 ≤ 16777216; decide), fun p np => ?_⟩
        exact q _ _ (Gx.ext1 np).same (.tup (SqT.of upd_same) (.cons (.str _) (.cons (.str _) .nil)))
      | list ds =>
        cases hx with
        | @lst a xs _ hs ha =>
          have ok' : ds.length ≤ 100000 ∧ Gx.okDs ds = true := by simpa [Gx.okD] using ok
          have hl := Gx.dpAll_len ha
          rw [PyData.depth] at dp
          walk_at "g"
          refine ⟨Gx.line (by decide), fun p np => ?_⟩
          have E1 := Gx.ext1 (o := .tup [.str (Gx.mkS [108, 105, 115, 116])]) np
          generalize upd H p (.tup [.str (Gx.mkS [108, 105, 115, 116])]) = H1 at E1 ⊢
          have hs1 := E1.same.seq hs
          walk_at "g"
          refine ⟨⟨_, hs1⟩, fun D nD => lc_list (K := K) (a := a) (xs := xs) (fun i H2 => Same H1 H2 ∧ ∃ ys, H2 D = some (.lst ys) ∧ DpAll K H2 ys (Gx.kindAll (ds.take i)))
            ⟨Gx.Same.put (Same.refl H1) nD, [], upd_same, by rw [List.take_zero]; exact .nil⟩ (fun i H2 _ ⟨s2, _⟩ => s2.seq hs1) ?_ ?_⟩
          · rintro i x H2 hi ⟨s2, ys, e2, d2⟩
            obtain ⟨d, hd, dx⟩ := Gx.dpAll_get (Gx.dpAll_same (E1.same.trans s2) ds _ ha) hi
            obtain ⟨m, rfl⟩ : ∃ m, n = m + 1 := ⟨n - 1, by omega⟩
            have hil : i < ds.length := (List.getElem?_eq_some_iff.mp hd).1
            walk_at "g"
            refine ⟨rfl, ?_⟩
            walk_at "g"
            refine ⟨x, d, rfl, dx, Gx.okDs_get ok'.2 hd, by have := Gx.depth_get hd; omega, fun H3 y s3 dy => ?_⟩
            refine ⟨ys, s3 _ _ e2, Gx.lineL (by rw [Gx.dpAll_len d2, Gx.kindAll_len, List.length_take]; omega), Gx.Same.put (s2.trans s3) nD, ys ++ [y], upd_same, ?_⟩
            rw [List.take_add_one, hd, Option.toList_some, Gx.kindAll_app]
            refine Gx.dpAll_app (Gx.dpAll_tups (Gx.Tups.upd (s3 _ _ e2)) _ _ (Gx.noLs_kind _) (Gx.dpAll_same s3 _ _ d2)) (.cons (Gx.dp_tups (Gx.Tups.upd (s3 _ _ e2)) _ _ (Gx.noL_kind d) dy) .nil)
          · rintro H2 ⟨s2, ys, e2, d2⟩
            rw [hl, List.take_length] at d2
            walk_at "g"
            refine Gx.tupL (SqL.of e2) (fun t nt => ?_)
            have E3 := Gx.ext1 (o := .tup ys) nt
            generalize upd H2 t (.tup ys) = H3 at E3 ⊢
            walk_at "g"
            refine Gx.catT' (SqT.of (E3.same _ _ (s2 _ _ E1.at_))) (SqT.of E3.at_) (by simp) (by rw [Gx.dpAll_len d2, Gx.kindAll_len]; show 1 + _ ≤ _; omega) (fun r H4 s4 hr => ?_)
            exact q _ _ (((E1.same.trans s2).trans E3.same).trans s4) (.tup hr (.cons (.str _) (Gx.dpAll_same (E3.same.trans s4) _ _ d2)))
      | tuple ds =>
        cases hx with
        | @tup a xs _ hs ha =>
          have ok' : ds.length ≤ 100000 ∧ Gx.okDs ds = true := by simpa [Gx.okD] using ok
          have hl := Gx.dpAll_len ha
          rw [PyData.depth] at dp
          walk_at "g"
          refine ⟨Gx.line (by decide), fun p np => ?_⟩
          have E1 := Gx.ext1 (o := .tup [.str (Gx.mkS [116, 117, 112, 108, 101])]) np
          generalize upd H p (.tup [.str (Gx.mkS [116, 117, 112, 108, 101])]) = H1 at E1 ⊢
          have hs1 := E1.same.seqT hs
          walk_at "g"
          refine ⟨⟨_, hs1⟩, fun D nD => lc_tup (K := K) (a := a) (xs := xs) (fun i H2 => Same H1 H2 ∧ ∃ ys, H2 D = some (.lst ys) ∧ DpAll K H2 ys (Gx.kindAll (ds.take i)))
            ⟨Gx.Same.put (Same.refl H1) nD, [], upd_same, by rw [List.take_zero]; exact .nil⟩ (fun i H2 _ ⟨s2, _⟩ => s2.seqT hs1) ?_ ?_⟩
          · rintro i x H2 hi ⟨s2, ys, e2, d2⟩
            obtain ⟨d, hd, dx⟩ := Gx.dpAll_get (Gx.dpAll_same (E1.same.trans s2) ds _ ha) hi
            obtain ⟨m, rfl⟩ : ∃ m, n = m + 1 := ⟨n - 1, by omega⟩
            have hil : i < ds.length := (List.getElem?_eq_some_iff.mp hd).1
            walk_at "g"
            refine ⟨rfl, ?_⟩
            walk_at "g"
            refine ⟨x, d, rfl, dx, Gx.okDs_get ok'.2 hd, by have := Gx.depth_get hd; omega, fun H3 y s3 dy => ?_⟩
            refine ⟨ys, s3 _ _ e2, Gx.lineL (by rw [Gx.dpAll_len d2, Gx.kindAll_len, List.length_take]; omega), Gx.Same.put (s2.trans s3) nD, ys ++ [y], upd_same, ?_⟩
            rw [List.take_add_one, hd, Option.toList_some, Gx.kindAll_app]
            refine Gx.dpAll_app (Gx.dpAll_tups (Gx.Tups.upd (s3 _ _ e2)) _ _ (Gx.noLs_kind _) (Gx.dpAll_same s3 _ _ d2)) (.cons (Gx.dp_tups (Gx.Tups.upd (s3 _ _ e2)) _ _ (Gx.noL_kind d) dy) .nil)
          · rintro H2 ⟨s2, ys, e2, d2⟩
            rw [hl, List.take_length] at d2
            walk_at "g"
            refine Gx.tupL (SqL.of e2) (fun t nt => ?_)
            have E3 := Gx.ext1 (o := .tup ys) nt
            generalize upd H2 t (.tup ys) = H3 at E3 ⊢
            walk_at "g"
            refine Gx.catT' (SqT.of (E3.same _ _ (s2 _ _ E1.at_))) (SqT.of E3.at_) (by simp) (by rw [Gx.dpAll_len d2, Gx.kindAll_len]; show 1 + _ ≤ _; omega) (fun r H4 s4 hr => ?_)
            exact q _ _ (((E1.same.trans s2).trans E3.same).trans s4) (.tup hr (.cons (.str _) (Gx.dpAll_same (E3.same.trans s4) _ _ d2)))
      | dict _ => cases hx
def sp_same (K : PySem.W.Frag) : Sp := fun vs H Q _ => ∃ (x y : V) (d : PyData), vs = [x, y] ∧ Dp K H x d ∧ Dp K H y d ∧ Gx.okD d = true ∧ PyData.depth d ≤ 20 ∧ ∀ H', Same H H' → Q (.bl true) H'
theorem G__law_same (T : Txt K mg) : FnOk P w K mg base CX0 22 T.f__law_same T.fd__law_same ["answer", "due"] (sp_same K) := by
  have G__law_kind := G__law_kind (P := P) (w := w) (base := base) T 21
  refine T.F__law_same.ok sc__law_same (fun vs H Q E h => ?_) (fun cdv A outer s H vs Q E hr h => ?_)
  · obtain ⟨x, y, d, rfl, _⟩ := h
    rfl
  · obtain ⟨x, y, d, rfl, hx, hy, ok, dp, q⟩ := h
    refine ⟨_, ((pss_one (ps_ret (pe_cmpR (op_eqD hr.units) (pe_call G__law_kind (hr.mono (by first | decide | omega)) (by rfl) T.g__law_kind T.F__law_kind.kp T.b__law_kind .nil pass0 (pa_cons (pv 0) pa_nil)) (pe_call G__law_kind (hr.mono (by first | decide | omega)) (by rfl) T.g__law_kind T.F__law_kind.kp T.b__law_kind .nil pass0 (pa_cons (pv 1) pa_nil)) (nomark _))))), ?_⟩
    rw [st__law_same]
    try dsimp only [cxOf]
    walk_at "g"
    refine ⟨x, d, rfl, hx, ok, dp, fun H1 u s1 du => ?_⟩
    walk_at "g"
    refine ⟨y, d, rfl, Gx.dp_same s1 d _ hy, ok, dp, fun H2 v s2 dv => ?_⟩
    refine ⟨_, _, Gx.dp_same s2 _ _ du, dv, Gx.shaped_kind ok (by omega), Gx.shaped_kind ok (by omega), ?_⟩
    rw [Gx.eqv_kind ok]
    exact q H2 (s1.trans s2)
end
end K45
namespace K45
open PySem PySem.Spec PyProof.Rows L2
local macro_rules | `(tactic| walk_at "con") => `(tactic| first | with_reducible refine Gx.conE K45.ks0 ?_ | with_reducible refine Gx.conE K45.ks1 ?_ | with_reducible refine Gx.conE K45.ks2 ?_ | with_reducible refine Gx.conE K45.ks3 ?_ | with_reducible refine Gx.conE K45.ks4 ?_ | with_reducible refine Gx.conE K45.ks5 ?_ | with_reducible refine Gx.conE K45.ks6 ?_ | with_reducible refine Gx.conE K45.ks7 ?_ | with_reducible refine Gx.conE K45.ks8 ?_ | with_reducible refine Gx.conE K45.ks9 ?_ | with_reducible refine Gx.conE K45.ks10 ?_)
section
variable {P : Program} {w : World} {K : PySem.W.Frag} {mg : Str → Option Value} {base : Heap}
/-- start, end, new -/
abbrev P3 := Int × Int × List Nat
def SpsAt (C : Addr) (H : Hp) : List Addr → List P3 → Prop
  | [], [] => True
  | r :: rs, p :: ps => SpAt C H r p.1 p.2.1 p.2.2 ∧ SpsAt C H rs ps
  | _, _ => False
theorem SpsAt.len {C : Addr} {H : Hp} : ∀ {rs : List Addr} {ps : List P3}, SpsAt C H rs ps → rs.length = ps.length
  | [], [], _ => rfl
  | _ :: _, _ :: _, h => by rw [List.length_cons, List.length_cons, SpsAt.len h.2]
  | [], _ :: _, h => h.elim
  | _ :: _, [], h => h.elim
theorem SpsAt.same {C : Addr} {H H' : Hp} (e : Same H H') : ∀ {rs : List Addr} {ps : List P3}, SpsAt C H rs ps → SpsAt C H' rs ps
  | [], [], _ => trivial
  | _ :: _, _ :: _, h => ⟨h.1.same e, SpsAt.same e h.2⟩
  | [], _ :: _, h => h.elim
  | _ :: _, [], h => h.elim
theorem SpsAt.get {C : Addr} {H : Hp} : ∀ {rs : List Addr} {ps : List P3} {i : Nat} {r : Addr}, SpsAt C H rs ps → rs[i]? = some r → ∃ p, ps[i]? = some p ∧ SpAt C H r p.1 p.2.1 p.2.2
  | [], _, _, _, _, h => by simp at h
  | _ :: _, [], _, _, h, _ => h.elim
  | _ :: _, p :: _, 0, _, h, e => by
    simp at e
    subst e
    exact ⟨p, rfl, h.1⟩
  | _ :: _, _ :: _, i + 1, _, h, e => SpsAt.get (i := i) h.2 (by simpa using e)
theorem SpsAt.app {C : Addr} {H : Hp} : ∀ {rs qs : List Addr} {ps us : List P3}, SpsAt C H rs ps → SpsAt C H qs us → SpsAt C H (rs ++ qs) (ps ++ us)
  | [], _, [], _, _, h => h
  | _ :: _, _, _ :: _, _, g, h => ⟨g.1, SpsAt.app g.2 h⟩
  | [], _, _ :: _, _, g, _ => g.elim
  | _ :: _, _, [], _, g, _ => g.elim
/-- a list at l is written: splices stay -/
theorem SpAt.put {C : Addr} {H : Hp} {r l : Addr} {s e : Int} {n : List Nat} {xs ys : List V} (h : SpAt C H r s e n) (hl : H l = some (.lst xs)) : SpAt C (upd H l (.lst ys)) r s e n := by
  obtain ⟨dx, q⟩ := h
  exact ⟨dx, by rw [upd_ne (ne_of q hl (by intro z; cases z))]; exact q⟩
theorem SpsAt.put {C : Addr} {H : Hp} {l : Addr} {xs ys : List V} (hl : H l = some (.lst xs)) : ∀ {rs : List Addr} {ps : List P3}, SpsAt C H rs ps → SpsAt C (upd H l (.lst ys)) rs ps
  | [], [], _ => trivial
  | _ :: _, _ :: _, h => ⟨h.1.put hl, SpsAt.put hl h.2⟩
  | [], _ :: _, h => h.elim
  | _ :: _, [], h => h.elim
def InOrd (l : List Nat) : Int → List P3 → Prop
  | _, [] => True
  | r, p :: ps => r ≤ p.1 ∧ Fits p.1 p.2.1 l ∧ InOrd l p.2.1 ps
def ap (l : List Nat) : Int → List P3 → List Nat
  | r, [] => l.drop r.toNat
  | r, p :: ps => (l.take p.1.toNat).drop r.toNat ++ p.2.2 ++ ap l p.2.1 ps
def bk (l : List Nat) : Int → List P3 → List P3
  | _, [] => []
  | m, p :: ps => (p.1 + m, p.1 + m + (p.2.2.length : Nat), (l.take p.2.1.toNat).drop p.1.toNat) :: bk l (m + ((p.2.2.length : Nat) - (p.2.1 - p.1))) ps
def Small (ps : List P3) : Prop := ps.length ≤ 100 ∧ ∀ p ∈ ps, p.2.2.length ≤ 1000
theorem map_get_ref {rs : List Addr} {i : Nat} {v : V} (h : (rs.map V.ref)[i]? = some v) : ∃ r, rs[i]? = some r ∧ v = .ref r := by
  rw [List.getElem?_map] at h
  cases e : rs[i]? with
  | none => rw [e] at h; cases h
  | some r => rw [e] at h; exact ⟨r, rfl, (Option.some.inj h).symm⟩
theorem drop_cons {α : Type} {l : List α} {i : Nat} {x : α} (h : l[i]? = some x) : l.drop i = x :: l.drop (i + 1) := by
  obtain ⟨h1, h2⟩ := List.getElem?_eq_some_iff.mp h
  rw [List.drop_eq_getElem_cons h1, h2]
def sp_applied (K : PySem.W.Frag) (C B : Addr) : Sp := fun vs H Q E => ∃ (a : Addr) (rs : List Addr) (ps : List P3) (l : List Nat), vs = [.ref a, .str (Gx.mkS l)] ∧ SqL K H a (rs.map V.ref) ∧ SpsAt C H rs ps ∧ l.length ≤ 5000 ∧ Small ps ∧
  (InOrd l 0 ps → Q (.str (Gx.mkS (ap l 0 ps))) H) ∧ (¬ InOrd l 0 ps → E (.ref B) none H)
theorem G_all_applied (T : Txt K mg) : FnOk P w K mg base (L2.CX P w) 2 T.f_all_applied T.fd_all_applied ["splices", "text"] (sp_applied K T.a_Splice T.a_BadSplice) := by
  have G_Splice_fits := G_Splice_fits (P := P) (w := w) (base := base) T
  refine T.F_all_applied.okX sc_all_applied (fun vs H Q E h => ?_) (fun cdv A outer s H vs Q E hr h => ?_)
  · obtain ⟨a, rs, ps, l, rfl, _⟩ := h
    rfl
  · obtain ⟨a, rs, ps, l, rfl, hS, hps, hl, ⟨hn, hnew⟩, q1, q2⟩ := h
    refine ⟨_, ((pss_cons (ps_set (i := 2) sc_all_applied.nd rfl (Or.inl rfl) pe_str)
  (pss_cons (ps_set (i := 3) sc_all_applied.nd rfl (Or.inl rfl) pe_int)
  (pss_cons (ps_for (passes_of rfl) rfl (pi_list (pv 0)) (pg_name (i := 4) sc_all_applied.nd rfl (Or.inl rfl))
  (pss_cons (ps_if (PW.pt (pw_or (pt_cmpR op_lt (pe_fld (pv 4) rfl) (pv 3) (nomark _)) (pw_or1 (pt_not (pt_val (pe_meth (pv 4) T.c_Splice T.m_Splice_fits G_Splice_fits (hr.mono (by first | decide | omega)) T.b_Splice_fits .nil pass0 (pa_cons (pv 1) pa_nil)))))))
  (pss_one (ps_raise rfl (takes_of rfl rfl rfl rfl) (Gx.pmk_own0 PySem.F.excBase_ValueError T.x_BadSplice T.g_BadSplice T.k_BadSplice (raises_own T.bP_BadSplice T.tP_BadSplice) rfl)))
  pss_nil)
  (pss_cons (ps_set (i := 2) sc_all_applied.nd rfl (Or.inl rfl) (pe_op Gx.op_addS (pe_op Gx.op_addS (pv 2) (pe_slice sl_str (pv 1) (po_some (pv 3)) (po_some (pe_fld (pv 4) rfl)))) (pe_fld (pv 4) rfl)))
  (pss_one (ps_set (i := 3) sc_all_applied.nd rfl (Or.inl rfl) (pe_fld (pv 4) rfl))))))
  (pss_one (ps_ret (pe_op Gx.op_addS (pv 2) (pe_slice sl_str (pv 1) (po_some (pv 3)) po_none)))))))), ?_⟩
    rw [st_all_applied]
    try dsimp only [cxOf]
    walk_at "g"
    refine ⟨⟨_, hS⟩, for_list (K := K) (a := a) (xs := rs.map V.ref) (fun i σ H1 => ∃ (F : List Nat) (R : Int) (y : Option V), H1 = H ∧ 0 ≤ R ∧ (InOrd l 0 ps ↔ InOrd l R (ps.drop i)) ∧ ap l 0 ps = F ++ ap l R (ps.drop i) ∧ F.length ≤ i * 6000 ∧
        σ = [some (.ref a), some (.str (Gx.mkS l)), some (.str (Gx.mkS F)), some (.int R), y])
      ⟨[], 0, none, rfl, by omega, Iff.rfl, rfl, by simp, rfl⟩ (fun i σ H1 _ ⟨_, _, _, e, _⟩ => by rw [e]; exact hS) ?_ ?_⟩
    · rintro i v σ H1 hi ⟨F, R, y, rfl, hR, iff, eap, hF, rfl⟩
      obtain ⟨r, hr0, rfl⟩ := map_get_ref hi
      obtain ⟨p, hp, sp⟩ := hps.get hr0
      obtain ⟨dx, hx⟩ := id sp
      have hil : i < ps.length := (List.getElem?_eq_some_iff.mp hp).1
      have hnp := hnew p (List.mem_of_getElem? hp)
      have ed := drop_cons hp
      rw [ed] at iff eap
      walk_at "g"
      refine ⟨r, T.a_Splice, dx, _, _, rfl, hx, T.c_Splice, T.n_Splice_start, lk_start _ _ _, ?_⟩
      walk_at "g"
      refine Gx.iteD (fun h1 => ?_) (fun h1 => ?_)
      · walk_at "g"
        exact q2 fun z => by have := (iff.mp z).1; omega
      · walk_at "g"
        refine ⟨r, dx, _, rfl, hx, rfl, ?_⟩
        walk_at "g"
        refine ⟨r, _, _, _, l, rfl, sp, by omega, ?_⟩
        walk_at "g"
        refine Gx.iteDn (fun hf => ?_) (fun hf => ?_)
        · exact q2 fun z => hf (iff.mp z).2.1
        · obtain ⟨f1, f2, f3⟩ := id hf
          have hF2 : F.length ≤ 600000 := by have : i * 6000 ≤ 100 * 6000 := Nat.mul_le_mul_right _ (by omega); omega
          walk_at "g"
          refine ⟨r, T.a_Splice, dx, _, _, rfl, hx, T.c_Splice, T.n_Splice_start, lk_start _ _ _, ?_⟩
          walk_at "g"
          refine ⟨r, T.a_Splice, dx, _, _, rfl, hx, T.c_Splice, T.n_Splice_new, lk_new _ _ _, ?_⟩
          walk_at "g"
          refine ⟨r, T.a_Splice, dx, _, _, rfl, hx, T.c_Splice, T.n_Splice_end, lk_end _ _ _, ?_⟩
          walk_at "g"
          refine ⟨_, p.2.1, _, rfl, by omega, iff.trans ⟨fun z => z.2.2, fun z => ⟨by omega, hf, z⟩⟩, ?_, ?_, rfl⟩
          · rw [eap]
            simp only [ap, List.append_assoc]
          · simp only [List.length_append, List.length_drop, List.length_take]
            omega
    · rintro σ H1 ⟨F, R, y, rfl, hR, iff, eap, hF, rfl⟩
      rw [List.length_map, hps.len] at eap iff hF
      rw [List.drop_length] at eap iff
      walk_at "g"
      have h1 : InOrd l 0 ps := iff.mpr trivial
      have q := q1 h1
      rw [eap] at q
      exact q
def sp_allback (K : PySem.W.Frag) (C B : Addr) : Sp := fun vs H Q E => ∃ (a : Addr) (rs : List Addr) (ps : List P3) (l : List Nat), vs = [.ref a, .str (Gx.mkS l)] ∧ SqL K H a (rs.map V.ref) ∧ SpsAt C H rs ps ∧ l.length ≤ 5000 ∧ Small ps ∧
  (InOrd l 0 ps → ∀ H' q us, Same H H' → H q = none → H' q = some (.lst (us.map V.ref)) → SpsAt C H' us (bk l 0 ps) → Q (.ref q) H') ∧ (¬ InOrd l 0 ps → ∀ H', Same H H' → E (.ref B) none H')
theorem G_all_back (T : Txt K mg) : FnOk P w K mg base (L2.CX P w) 3 T.f_all_back T.fd_all_back ["splices", "text"] (sp_allback K T.a_Splice T.a_BadSplice) := by
  have G_Splice_fits := G_Splice_fits (P := P) (w := w) (base := base) T
  have G_Splice_init := G_Splice_init (P := P) (w := w) (base := base) T
  have G_Splice_longer := G_Splice_longer (P := P) (w := w) (base := base) T
  refine T.F_all_back.okX sc_all_back (fun vs H Q E h => ?_) (fun cdv A outer s H vs Q E hr h => ?_)
  · obtain ⟨a, rs, ps, l, rfl, _⟩ := h
    rfl
  · obtain ⟨a, rs, ps, l, rfl, hS, hps, hl, ⟨hn, hnew⟩, q1, q2⟩ := h
    refine ⟨_, ((pss_cons (ps_set (i := 2) sc_all_back.nd rfl (Or.inl rfl) (pe_lst pa_nil))
  (pss_cons (ps_set (i := 3) sc_all_back.nd rfl (Or.inl rfl) pe_int)
  (pss_cons (ps_set (i := 4) sc_all_back.nd rfl (Or.inl rfl) pe_int)
  (pss_cons (ps_for (passes_of rfl) rfl (pi_list (pv 0)) (pg_name (i := 5) sc_all_back.nd rfl (Or.inl rfl))
  (pss_cons (ps_if (PW.pt (pw_or (pt_cmpR op_lt (pe_fld (pv 5) rfl) (pv 4) (nomark _)) (pw_or1 (pt_not (pt_val (pe_meth (pv 5) T.c_Splice T.m_Splice_fits G_Splice_fits (hr.mono (by first | decide | omega)) T.b_Splice_fits .nil pass0 (pa_cons (pv 1) pa_nil)))))))
  (pss_one (ps_raise rfl (takes_of rfl rfl rfl rfl) (Gx.pmk_own0 PySem.F.excBase_ValueError T.x_BadSplice T.g_BadSplice T.k_BadSplice (raises_own T.bP_BadSplice T.tP_BadSplice) rfl)))
  pss_nil)
  (pss_cons (ps_set (i := 6) sc_all_back.nd rfl (Or.inl rfl) (pe_op op_add (pe_fld (pv 5) rfl) (pv 3)))
  (pss_cons (ps_expr (pe_bm PySem.F.plainAttrs_list PySem.F.slot_list_append PySem.F.type_list_append mt_append (pv 2) (pa_cons (pe_make T.M_Splice G_Splice_init (hr.mono (by first | decide | omega)) (by rfl) T.g_Splice T.b_Splice_init .nil pass0 (pa_cons (pv 6) (pa_cons (pe_op op_add (pv 6) (pe_callB Gx.cr_lenS (by rfl) T.z_len bt_len (pa_cons (pe_fld (pv 5) rfl) pa_nil))) (pa_cons (pe_slice sl_str (pv 1) (po_some (pe_fld (pv 5) rfl)) (po_some (pe_fld (pv 5) rfl))) pa_nil)))) pa_nil)))
  (pss_cons (ps_aug (i := 3) sc_all_back.nd rfl (Or.inl rfl) (pe_prop (pv 5) T.c_Splice T.pr_Splice_longer G_Splice_longer (hr.mono (by first | decide | omega)) T.b_Splice_longer .nil pass0 rfl) ip_add)
  (pss_one (ps_set (i := 4) sc_all_back.nd rfl (Or.inl rfl) (pe_fld (pv 5) rfl))))))))
  (pss_one (ps_ret (pv 2)))))))), ?_⟩
    rw [st_all_back]
    try dsimp only [cxOf]
    walk_at "g"
    refine ⟨Gx.line (by decide), fun p np => ?_⟩
    have E1 := Gx.ext1 (o := .lst []) np
    generalize upd H p (.lst []) = H1 at E1 ⊢
    walk_at "g"
    refine ⟨⟨_, E1.same.seq hS⟩, for_list (K := K) (a := a) (xs := rs.map V.ref) (fun i σ H2 => ∃ (us : List Addr) (done : List P3) (R m : Int) (y z : Option V), Same H H2 ∧ H2 p = some (.lst (us.map V.ref)) ∧ SpsAt T.a_Splice H2 us done ∧ us.length = i ∧ 0 ≤ R ∧
        (InOrd l 0 ps ↔ InOrd l R (ps.drop i)) ∧ bk l 0 ps = done ++ bk l m (ps.drop i) ∧
        σ = [some (.ref a), some (.str (Gx.mkS l)), some (.ref p), some (.int m), some (.int R), y, z])
      ⟨[], [], 0, 0, none, none, E1.same, E1.at_, trivial, rfl, by omega, Iff.rfl, rfl, rfl⟩ (fun i σ H2 _ ⟨_, _, _, _, _, _, e, _⟩ => e.seq hS) ?_ ?_⟩
    · rintro i v σ H2 hi ⟨us, done, R, m, y, z, s2, e2, hd, hus, hR, iff, eb, rfl⟩
      obtain ⟨r, hr0, rfl⟩ := map_get_ref hi
      obtain ⟨u, hp, sp⟩ := (hps.same s2).get hr0
      obtain ⟨dx, hx⟩ := id sp
      have hil : i < ps.length := (List.getElem?_eq_some_iff.mp hp).1
      have hnp := hnew u (List.mem_of_getElem? hp)
      have ed := drop_cons hp
      rw [ed] at iff eb
      walk_at "g"
      refine ⟨r, T.a_Splice, dx, _, _, rfl, hx, T.c_Splice, T.n_Splice_start, lk_start _ _ _, ?_⟩
      walk_at "g"
      refine Gx.iteD (fun h1 => ?_) (fun h1 => ?_)
      · walk_at "g"
        exact q2 (fun z => by have := (iff.mp z).1; omega) _ s2
      · walk_at "g"
        refine ⟨r, dx, _, rfl, hx, rfl, ?_⟩
        walk_at "g"
        refine ⟨r, _, _, _, l, rfl, sp, by omega, ?_⟩
        walk_at "g"
        refine Gx.iteDn (fun hf => ?_) (fun hf => ?_)
        · exact q2 (fun z => hf (iff.mp z).2.1) _ s2
        · obtain ⟨f1, f2, f3⟩ := id hf
          walk_at "g"
          refine ⟨r, T.a_Splice, dx, _, _, rfl, hx, T.c_Splice, T.n_Splice_start, lk_start _ _ _, ?_⟩
          walk_at "g"
          refine ⟨r, T.a_Splice, dx, _, _, rfl, hx, T.c_Splice, T.n_Splice_new, lk_new _ _ _, ?_⟩
          walk_at "g"
          refine ⟨r, T.a_Splice, dx, _, _, rfl, hx, T.c_Splice, T.n_Splice_start, lk_start _ _ _, ?_⟩
          walk_at "g"
          refine ⟨r, T.a_Splice, dx, _, _, rfl, hx, T.c_Splice, T.n_Splice_end, lk_end _ _ _, ?_⟩
          walk_at "g"
          intro x dy nx ndy ne
          refine ⟨x, dy, _, _, _, rfl, upd_same, fun H3 e3 e4 => ⟨rfl, ?_⟩⟩
          have s3 : Same H2 H3 := Gx.made_same nx ndy e4
          have sy : SpAt T.a_Splice H3 x (u.1 + m) (u.1 + m + (u.2.2.length : Nat)) ((l.take u.2.1.toNat).drop u.1.toNat) := ⟨dy, e3⟩
          clear e3 e4 ne ndy nx
          have e5 := s3 _ _ e2
          walk_at "g"
          have h6 : (upd H3 p (.lst ((us ++ [x]).map V.ref))) r = some (.ins T.a_Splice dx (flds u.1 u.2.1 u.2.2)) := by
            rw [upd_ne (ne_of (s3 _ _ hx) e5 (by intro z; cases z))]
            exact s3 _ _ hx
          have s7 : Same H (upd H3 p (.lst ((us ++ [x]).map V.ref))) := Gx.Same.put (s2.trans s3) np
          have d8 : SpsAt T.a_Splice (upd H3 p (.lst ((us ++ [x]).map V.ref))) (us ++ [x]) (done ++ [(u.1 + m, u.1 + m + (u.2.2.length : Nat), (l.take u.2.1.toNat).drop u.1.toNat)]) :=
            SpsAt.put e5 ((hd.same s3).app ⟨sy, trivial⟩)
          have e9 : (upd H3 p (.lst ((us ++ [x]).map V.ref))) p = some (.lst ((us ++ [x]).map V.ref)) := upd_same
          generalize upd H3 p (.lst ((us ++ [x]).map V.ref)) = H4 at h6 s7 d8 e9 ⊢
          refine ⟨r, dx, _, rfl, h6, r, _, _, _, rfl, ⟨dx, h6⟩, by omega, ?_⟩
          walk_at "g"
          refine ⟨r, T.a_Splice, dx, _, _, rfl, h6, T.c_Splice, T.n_Splice_end, lk_end _ _ _, ?_⟩
          walk_at "g"
          refine ⟨us ++ [x], _, u.2.1, _, _, _, s7, e9, d8, by rw [List.length_append, hus]; rfl, by omega, iff.trans ⟨fun z => z.2.2, fun z => ⟨by omega, hf, z⟩⟩, ?_, rfl⟩
          rw [eb, bk, List.append_assoc]
          rfl
    · rintro σ H2 ⟨us, done, R, m, y, z, s2, e2, hd, hus, hR, iff, eb, rfl⟩
      rw [List.length_map, hps.len, List.drop_length] at eb iff
      walk_at "g"
      rw [bk, List.append_nil] at eb
      refine q1 (iff.mpr trivial) _ p us s2 np e2 ?_
      rw [eb]
      exact hd
end
end K45
namespace K45
open PySem PySem.Spec PyProof.Rows L2
local macro_rules | `(tactic| walk_at "con") => `(tactic| first | with_reducible refine Gx.conE K45.ks0 ?_ | with_reducible refine Gx.conE K45.ks1 ?_ | with_reducible refine Gx.conE K45.ks2 ?_ | with_reducible refine Gx.conE K45.ks3 ?_ | with_reducible refine Gx.conE K45.ks4 ?_ | with_reducible refine Gx.conE K45.ks5 ?_ | with_reducible refine Gx.conE K45.ks6 ?_ | with_reducible refine Gx.conE K45.ks7 ?_ | with_reducible refine Gx.conE K45.ks8 ?_ | with_reducible refine Gx.conE K45.ks9 ?_ | with_reducible refine Gx.conE K45.ks10 ?_)
section
variable {P : Program} {w : World} {K : PySem.W.Frag} {mg : Str → Option Value} {base : Heap}
/-! ### several splices, in plain Lean -/
instance decInOrd (l : List Nat) : ∀ (r : Int) (ps : List P3), Decidable (InOrd l r ps)
  | _, [] => isTrue trivial
  | r, p :: ps => by
    have := decInOrd l p.2.1 ps
    unfold InOrd
    infer_instance
theorem seg3 {l : List Nat} {a b c : Nat} (h1 : a ≤ b) (h2 : b ≤ c) : (l.take b).drop a ++ (l.take c).drop b = (l.take c).drop a := by
  have e1 : l.take b = (l.take c).take b := by rw [List.take_take, Nat.min_eq_left h2]
  rw [e1]
  have e2 : ((l.take c).take b).drop a ++ ((l.take c).drop b) = (((l.take c).take b) ++ (l.take c).drop b).drop a ∨ (l.take c).length < a := by
    by_cases q : a ≤ ((l.take c).take b).length
    · left
      rw [List.drop_append_of_le_length q]
    · by_cases q2 : (l.take c).length < a
      · exact .inr q2
      · left
        rw [List.length_take] at q
        omega
  rcases e2 with e2 | e2
  · rw [e2, List.take_append_drop]
  · rw [List.drop_eq_nil_of_le (by rw [List.length_take]; omega), List.drop_eq_nil_of_le (by omega), List.drop_eq_nil_of_le (by omega)]
    rfl
theorem seg_end {l : List Nat} {a b : Nat} (h1 : a ≤ b) : (l.take b).drop a ++ l.drop b = l.drop a := by
  have h := seg3 (l := l) (a := a) (b := b) (c := max b l.length) h1 (Nat.le_max_left _ _)
  rw [List.take_of_length_le (l := l) (Nat.le_max_right _ _)] at h
  exact h
theorem ap_len (l : List Nat) : ∀ (ps : List P3) (r : Int), (ap l r ps).length ≤ l.length + ps.length * (l.length + 1000) ∨ ∃ p ∈ ps, 1000 < p.2.2.length
  | [], r => .inl (by rw [ap, List.length_drop]; simp)
  | p :: ps, r => by
    rcases ap_len l ps p.2.1 with h | ⟨q, hq, h⟩
    · by_cases hp : 1000 < p.2.2.length
      · exact .inr ⟨p, List.mem_cons_self, hp⟩
      · left
        rw [ap]
        simp only [List.length_append, List.length_drop, List.length_take, List.length_cons]
        rw [Nat.add_mul]
        omega
    · exact .inr ⟨q, List.mem_cons_of_mem _ hq, h⟩
theorem undo_all (l A : List Nat) : ∀ (ps : List P3) (R m : Int) (P : List Nat), 0 ≤ R → R ≤ l.length → (P.length : Int) = R + m → A = P ++ ap l R ps → InOrd l R ps →
    InOrd A (R + m) (bk l m ps) ∧ ap A (R + m) (bk l m ps) = l.drop R.toNat ∧ bk A (-m) (bk l m ps) = ps
  | [], R, m, P, h0, h1, hP, hA, _ => by
    refine ⟨trivial, ?_, rfl⟩
    show A.drop (R + m).toNat = _
    rw [hA, ap, List.drop_left' (by omega)]
  | (s, e, n) :: ps, R, m, P, h0, h1, hP, hA, ⟨o1, ⟨f1, f2, f3⟩, o3⟩ => by
    dsimp only at o1 f1 f2 f3 o3
    have hmid : ((l.take s.toNat).drop R.toNat).length = (s - R).toNat := by
      rw [List.length_drop, List.length_take]
      omega
    have hap : ap l R ((s, e, n) :: ps) = (l.take s.toNat).drop R.toNat ++ n ++ ap l e ps := rfl
    have hA2 : A = (P ++ (l.take s.toNat).drop R.toNat ++ n) ++ ap l e ps := by
      rw [hA, hap]
      simp only [List.append_assoc]
    have hP2 : ((P ++ (l.take s.toNat).drop R.toNat ++ n).length : Int) = e + (m + ((n.length : Nat) - (e - s))) := by
      rw [List.length_append, List.length_append, hmid]
      omega
    obtain ⟨i1, i2, i3⟩ := undo_all l A ps e (m + ((n.length : Nat) - (e - s))) _ (by omega) f3 hP2 hA2 o3
    have hbk : bk l m ((s, e, n) :: ps) = (s + m, s + m + (n.length : Nat), (l.take e.toNat).drop s.toNat) :: bk l (m + ((n.length : Nat) - (e - s))) ps := rfl
    have he : s + m + (n.length : Nat) = e + (m + ((n.length : Nat) - (e - s))) := by omega
    have hAlen : A.length = P.length + (s - R).toNat + n.length + (ap l e ps).length := by
      rw [hA2]
      simp only [List.length_append, hmid]
    have hseg : ((l.take e.toNat).drop s.toNat).length = (e - s).toNat := by
      rw [List.length_drop, List.length_take]
      omega
    have t1 : A.take (s + m).toNat = P ++ (l.take s.toNat).drop R.toNat := by
      rw [hA2, List.append_assoc (P ++ _), List.take_left' (by rw [List.length_append, hmid]; omega)]
    have t2 : A.take (s + m + (n.length : Nat)).toNat = P ++ (l.take s.toNat).drop R.toNat ++ n := by
      rw [hA2, List.take_left' (by rw [List.length_append, List.length_append, hmid]; omega)]
    rw [hbk]
    refine ⟨⟨by show R + m ≤ s + m; omega, ⟨by show 0 ≤ s + m; omega, by show s + m ≤ s + m + (n.length : Nat); omega, by show s + m + (n.length : Nat) ≤ A.length; omega⟩, ?_⟩, ?_, ?_⟩
    · show InOrd A (s + m + (n.length : Nat)) _
      rw [he]
      exact i1
    · show (A.take (s + m).toNat).drop (R + m).toNat ++ (l.take e.toNat).drop s.toNat ++ ap A (s + m + (n.length : Nat)) _ = _
      rw [he, i2, t1, List.drop_left' (by omega), List.append_assoc, seg_end (by omega), seg_end (by omega)]
    · show (s + m + -m, s + m + -m + (((l.take e.toNat).drop s.toNat).length : Nat), (A.take (s + m + (n.length : Nat)).toNat).drop (s + m).toNat) ::
        bk A (-m + ((((l.take e.toNat).drop s.toNat).length : Nat) - (s + m + (n.length : Nat) - (s + m)))) _ = _
      rw [hseg, t2, List.drop_left' (by rw [List.length_append, hmid]; omega)]
      have e1 : s + m + -m = s := by omega
      have e2 : s + (((e - s).toNat : Nat) : Int) = e := by omega
      have e3 : -m + ((((e - s).toNat : Nat) : Int) - (s + m + (n.length : Nat) - (s + m))) = -(m + ((n.length : Nat) - (e - s))) := by omega
      rw [e1, e2, e3, i3]
theorem undo_top {l : List Nat} {ps : List P3} (h : InOrd l 0 ps) : InOrd (ap l 0 ps) 0 (bk l 0 ps) ∧ ap (ap l 0 ps) 0 (bk l 0 ps) = l ∧ bk (ap l 0 ps) 0 (bk l 0 ps) = ps := by
  have := undo_all l (ap l 0 ps) ps 0 0 [] (by omega) (by omega) rfl rfl h
  simpa using this
theorem bk_len (l : List Nat) : ∀ (ps : List P3) (m : Int), (bk l m ps).length = ps.length
  | [], _ => rfl
  | p :: ps, m => by rw [bk, List.length_cons, List.length_cons, bk_len l ps]
theorem bk_small (l : List Nat) : ∀ (ps : List P3) (m : Int), ∀ p ∈ bk l m ps, p.2.2.length ≤ l.length
  | [], _, _, h => by simp [bk] at h
  | p :: ps, m, q, h => by
    rw [bk] at h
    rcases List.mem_cons.mp h with rfl | h
    · simp only [List.length_drop, List.length_take]
      omega
    · exact bk_small l ps _ q h
theorem InOrd.suffix {l : List Nat} : ∀ {ps : List P3} {R : Int} (k : Nat), 0 ≤ R → InOrd l R ps → ∃ R', 0 ≤ R' ∧ InOrd l R' (ps.drop k)
  | ps, R, 0, h0, h => ⟨R, h0, h⟩
  | [], R, k + 1, h0, h => ⟨R, h0, trivial⟩
  | p :: ps, R, k + 1, h0, h => InOrd.suffix k (by have := h.2.1; unfold Fits at this; omega) h.2.2
/-- what stands behind turns from the right -/
def Tail (l : List Nat) (ps : List P3) (W : List Nat) : Prop := ∀ R : Int, 0 ≤ R → R ≤ l.length → InOrd l R ps → W = l.take R.toNat ++ ap l R ps
theorem Tail.nil (l : List Nat) : Tail l [] l := fun R _ _ _ => by rw [ap, List.take_append_drop]
theorem Tail.cons {l : List Nat} {p : P3} {ps : List P3} {W : List Nat} (t : Tail l ps W) {R0 : Int} (h : InOrd l R0 (p :: ps)) : Tail l (p :: ps) (W.take p.1.toNat ++ p.2.2 ++ W.drop p.2.1.toNat) := fun R r0 r1 hR => by
  obtain ⟨o1, ⟨f1, f2, f3⟩, o3⟩ := hR
  have hW := t p.2.1 (by omega) f3 o3
  have hl : (l.take p.2.1.toNat).length = p.2.1.toNat := by rw [List.length_take]; omega
  have e1 : W.take p.1.toNat = l.take p.1.toNat := by
    rw [hW, List.take_append_of_le_length (by omega), List.take_take, Nat.min_eq_left (by omega)]
  have e2 : W.drop p.2.1.toNat = ap l p.2.1 ps := by
    rw [hW, List.drop_left' hl]
  rw [e1, e2, ap]
  have e3 : l.take p.1.toNat = l.take R.toNat ++ (l.take p.1.toNat).drop R.toNat := by
    have q : l.take R.toNat = (l.take p.1.toNat).take R.toNat := by rw [List.take_take, Nat.min_eq_left (by omega)]
    rw [q, List.take_append_drop]
  conv => lhs; rw [e3]
  simp only [List.append_assoc]
end
end K45
namespace K45
open PySem PySem.Spec PyProof.Rows L2
local macro_rules | `(tactic| walk_at "con") => `(tactic| first | with_reducible refine Gx.conE K45.ks0 ?_ | with_reducible refine Gx.conE K45.ks1 ?_ | with_reducible refine Gx.conE K45.ks2 ?_ | with_reducible refine Gx.conE K45.ks3 ?_ | with_reducible refine Gx.conE K45.ks4 ?_ | with_reducible refine Gx.conE K45.ks5 ?_ | with_reducible refine Gx.conE K45.ks6 ?_ | with_reducible refine Gx.conE K45.ks7 ?_ | with_reducible refine Gx.conE K45.ks8 ?_ | with_reducible refine Gx.conE K45.ks9 ?_ | with_reducible refine Gx.conE K45.ks10 ?_)
section
variable {P : Program} {w : World} {K : PySem.W.Frag} {mg : Str → Option Value} {base : Heap}
def tupD (p : P3) : PyData := .tuple [.int p.1, .int p.2.1, .str (Gx.mkS p.2.2)]
def planD (ps : List P3) : PyData := .list (ps.map tupD)
def tupV (p : P3) : List V := [.int p.1, .int p.2.1, .str (Gx.mkS p.2.2)]
theorem tup_inv {H : Hp} {v : V} {p : P3} (h : Dp K H v (tupD p)) : ∃ t, v = .ref t ∧ SqT K H t (tupV p) := by
  cases h with
  | @tup t xs _ hs ha =>
    refine ⟨t, rfl, ?_⟩
    cases ha with
    | cons h1 ha =>
      cases ha with
      | cons h2 ha =>
        cases ha with
        | cons h3 ha =>
          cases ha
          cases h1
          cases h2
          cases h3
          exact hs
theorem tup_mk {H : Hp} {t : Addr} {p : P3} (h : SqT K H t (tupV p)) : Dp K H (.ref t) (tupD p) := .tup h (.cons (.int _) (.cons (.int _) (.cons (.str _) .nil)))
theorem noL_tup (p : P3) : Gx.noL (tupD p) = true := rfl
theorem noLs_tup : ∀ ps : List P3, Gx.noLs (ps.map tupD) = true
  | [] => rfl
  | p :: ps => by rw [List.map_cons, Gx.noLs, noL_tup, noLs_tup ps]; rfl
theorem plan_inv {H : Hp} {a : Addr} {ps : List P3} (h : Dp K H (.ref a) (planD ps)) : ∃ xs, SqL K H a xs ∧ DpAll K H xs (ps.map tupD) ∧ xs.length = ps.length := by
  cases h with
  | @lst _ xs _ hs ha => exact ⟨xs, hs, ha, by rw [Gx.dpAll_len ha, List.length_map]⟩
theorem plan_get {H : Hp} {xs : List V} {ps : List P3} {i : Nat} {v : V} (h : DpAll K H xs (ps.map tupD)) (e : xs[i]? = some v) : ∃ p t, ps[i]? = some p ∧ v = .ref t ∧ SqT K H t (tupV p) := by
  obtain ⟨d, hd, dv⟩ := Gx.dpAll_get h e
  rw [List.getElem?_map] at hd
  cases q : ps[i]? with
  | none => rw [q] at hd; cases hd
  | some p =>
    rw [q] at hd
    obtain rfl := Option.some.inj hd
    obtain ⟨t, rfl, ht⟩ := tup_inv dv
    exact ⟨p, t, rfl, rfl, ht⟩
def POk (ps : List P3) : Prop := ps.length ≤ 50 ∧ ∀ p ∈ ps, p.2.2.length ≤ 1000 ∧ Gx.Cp p.2.2
def sp_inorder (K : PySem.W.Frag) : Sp := fun vs H Q _ => ∃ (a : Addr) (ps : List P3) (l : List Nat), vs = [.ref a, .int l.length] ∧ Dp K H (.ref a) (planD ps) ∧ Q (.bl (decide (InOrd l 0 ps))) H
theorem G__law_in_order (T : Txt K mg) : FnOk P w K mg base CX0 1 T.f__law_in_order T.fd__law_in_order ["plan", "size"] (sp_inorder K) := by
  refine T.F__law_in_order.ok sc__law_in_order (fun vs H Q E h => ?_) (fun cdv A outer s H vs Q E hr h => ?_)
  · obtain ⟨a, ps, l, rfl, _⟩ := h
    rfl
  · obtain ⟨a, ps, l, rfl, hp, q⟩ := h
    obtain ⟨xs, hS, hx, hlen⟩ := plan_inv hp
    refine ⟨_, ((pss_cons (ps_set (i := 2) sc__law_in_order.nd rfl (Or.inl rfl) pe_int)
  (pss_cons (ps_for PassesOwn.never rfl (pi_list (pv 0)) (pg_name (i := 3) sc__law_in_order.nd rfl (Or.inl rfl))
  (pss_cons (ps_if (PW.pt (pw_or (pt_cmpR op_lt (pe_ix ix_tup (pv 3) pe_int (fun _ _ => rfl)) (pv 2) (nomark _)) (pw_or (pt_cmpR op_lt (pe_ix ix_tup (pv 3) pe_int (fun _ _ => rfl)) (pe_ix ix_tup (pv 3) pe_int (fun _ _ => rfl)) (nomark _)) (pw_or1 (pt_cmpR op_gt (pe_ix ix_tup (pv 3) pe_int (fun _ _ => rfl)) (pv 1) (nomark _))))))
  (pss_one (ps_ret pe_bl))
  pss_nil)
  (pss_one (ps_set (i := 2) sc__law_in_order.nd rfl (Or.inl rfl) (pe_ix ix_tup (pv 3) pe_int (fun _ _ => rfl))))))
  (pss_one (ps_ret pe_bl))))), ?_⟩
    rw [st__law_in_order]
    try dsimp only [cxOf]
    walk_at "g"
    refine ⟨⟨_, hS⟩, for_list (K := K) (a := a) (xs := xs) (fun i σ H1 => ∃ (R : Int) (y : Option V), H1 = H ∧ 0 ≤ R ∧ (InOrd l 0 ps ↔ InOrd l R (ps.drop i)) ∧ σ = [some (.ref a), some (.int l.length), some (.int R), y])
      ⟨0, none, rfl, by omega, Iff.rfl, rfl⟩ (fun i σ H1 _ ⟨_, _, e, _⟩ => by rw [e]; exact hS) ?_ ?_⟩
    · rintro i v σ H1 hi ⟨R, y, rfl, hR, iff, rfl⟩
      obtain ⟨p, t, hp, rfl, ht⟩ := plan_get hx hi
      rw [drop_cons hp] at iff
      unfold tupV at ht
      walk_at "g"
      refine Gx.iteD (fun h1 => ?_) (fun h1 => ?_)
      · walk_at "g"
        rw [show decide (InOrd l 0 ps) = false from decide_eq_false fun z => by have := (iff.mp z).1; omega] at q
        exact q
      · walk_at "g"
        refine Gx.iteD (fun h2 => ?_) (fun h2 => ?_)
        · walk_at "g"
          rw [show decide (InOrd l 0 ps) = false from decide_eq_false fun z => by have := (iff.mp z).2.1; unfold Fits at this; omega] at q
          exact q
        · walk_at "g"
          refine Gx.iteD (fun h3 => ?_) (fun h3 => ?_)
          · walk_at "g"
            rw [show decide (InOrd l 0 ps) = false from decide_eq_false fun z => by have := (iff.mp z).2.1; unfold Fits at this; omega] at q
            exact q
          · walk_at "g"
            exact ⟨p.2.1, _, rfl, by omega, iff.trans ⟨fun z => z.2.2, fun z => ⟨by omega, ⟨by omega, by omega, by omega⟩, z⟩⟩, rfl⟩
    · rintro σ H1 ⟨R, y, rfl, hR, iff, rfl⟩
      rw [hlen, List.drop_length] at iff
      walk_at "g"
      rw [decide_eq_true (iff.mpr trivial)] at q
      exact q
def sp_after (K : PySem.W.Frag) : Sp := fun vs H Q _ => ∃ (a : Addr) (ps : List P3) (l : List Nat), vs = [.ref a, .str (Gx.mkS l)] ∧ Dp K H (.ref a) (planD ps) ∧ InOrd l 0 ps ∧ POk ps ∧ l.length ≤ 1000 ∧ Q (.str (Gx.mkS (ap l 0 ps))) H
theorem G__law_after (T : Txt K mg) : FnOk P w K mg base CX0 1 T.f__law_after T.fd__law_after ["plan", "text"] (sp_after K) := by
  refine T.F__law_after.ok sc__law_after (fun vs H Q E h => ?_) (fun cdv A outer s H vs Q E hr h => ?_)
  · obtain ⟨a, ps, l, rfl, _⟩ := h
    rfl
  · obtain ⟨a, ps, l, rfl, hp, io, pok, hl, q⟩ := h
    obtain ⟨xs, hS, hx, hlen⟩ := plan_inv hp
    have hn := pok.1
    refine ⟨_, ((pss_cons (ps_set (i := 2) sc__law_after.nd rfl (Or.inl rfl) (pv 1))
  (pss_cons (ps_for PassesOwn.never rfl (pi_range1 rfl T.z_range (pa_cons (pe_callB Gx.cr_lenQ (by rfl) T.z_len bt_len (pa_cons (pv 0) pa_nil)) pa_nil)) (pg_name (i := 3) sc__law_after.nd rfl (Or.inl rfl))
  (pss_cons (ps_set (i := 4) sc__law_after.nd rfl (Or.inl rfl) (pe_ix ix_list (pv 0) (pe_op op_sub (pe_op op_sub (pe_callB Gx.cr_lenQ (by rfl) T.z_len bt_len (pa_cons (pv 0) pa_nil)) pe_int) (pv 3)) (fun _ _ => rfl)))
  (pss_one (ps_set (i := 2) sc__law_after.nd rfl (Or.inl rfl) (pe_op Gx.op_addS (pe_op Gx.op_addS (pe_slice sl_str (pv 2) po_none (po_some (pe_ix ix_tup (pv 4) pe_int (fun _ _ => rfl)))) (pe_ix ix_tup (pv 4) pe_int (fun _ _ => rfl))) (pe_slice sl_str (pv 2) (po_some (pe_ix ix_tup (pv 4) pe_int (fun _ _ => rfl))) po_none))))))
  (pss_one (ps_ret (pv 2)))))), ?_⟩
    rw [st__law_after]
    try dsimp only [cxOf]
    walk_at "g"
    refine ⟨_, rfl, by omega, by omega, for_range (fun i σ H1 => ∃ (W : List Nat) (y z : Option V), H1 = H ∧ W.length ≤ 1000 + i * 1000 ∧ Tail l (ps.drop (ps.length - i)) W ∧ σ = [some (.ref a), some (.str (Gx.mkS l)), some (.str (Gx.mkS W)), y, z])
      ⟨l, none, none, rfl, by omega, by rw [Nat.sub_zero, List.drop_length]; exact Tail.nil l, rfl⟩ ?_ ?_⟩
    · rintro i σ H1 hi ⟨W, y, z, rfl, hW, tl, rfl⟩
      have hi' : i < ps.length := by omega
      obtain ⟨v, hv⟩ : ∃ v, xs[ps.length - (i + 1)]? = some v := ⟨xs[ps.length - (i + 1)]'(by omega), List.getElem?_eq_getElem _⟩
      obtain ⟨p, t, hp, rfl, ht⟩ := plan_get hx hv
      have ed := drop_cons hp
      rw [show ps.length - (i + 1) + 1 = ps.length - i by omega] at ed
      obtain ⟨R0, hR0, io0⟩ := io.suffix (ps.length - (i + 1)) (by omega)
      rw [ed] at io0
      have hfit := io0.2.1
      unfold Fits at hfit
      have hpn := (pok.2 p (List.mem_of_getElem? hp)).1
      have hWl : W.length ≤ 52000 := by have : i * 1000 ≤ 50 * 1000 := Nat.mul_le_mul_right _ (by omega); omega
      unfold tupV at ht
      walk_at "g"
      refine Gx.ixL hS (Gx.atI_of (k := ps.length - (i + 1)) (by omega) hv) ?_
      walk_at "g"
      refine ⟨_, _, _, rfl, ?_, ?_, rfl⟩
      · have hW2 := tl p.2.1 (by omega) hfit.2.2 io0.2.2
        simp only [List.length_append, List.length_take, List.length_drop]
        omega
      · rw [ed]
        exact tl.cons io0
    · rintro σ H1 ⟨W, y, z, rfl, hW, tl, rfl⟩
      rw [Int.toNat_natCast, hlen, Nat.sub_self, List.drop_zero] at tl
      have e := tl 0 (by omega) (by omega) io
      walk_at "g"
      rw [e]
      exact q
def sp_undone (K : PySem.W.Frag) : Sp := fun vs H Q _ => ∃ (a : Addr) (ps : List P3) (l : List Nat), vs = [.ref a, .str (Gx.mkS l)] ∧ Dp K H (.ref a) (planD ps) ∧ InOrd l 0 ps ∧ POk ps ∧ l.length ≤ 1000 ∧ ∀ H' q, Same H H' → Dp K H' (.ref q) (planD (bk l 0 ps)) → Q (.ref q) H'
theorem G__law_undone (T : Txt K mg) : FnOk P w K mg base CX0 1 T.f__law_undone T.fd__law_undone ["plan", "text"] (sp_undone K) := by
  refine T.F__law_undone.ok sc__law_undone (fun vs H Q E h => ?_) (fun cdv A outer s H vs Q E hr h => ?_)
  · obtain ⟨a, ps, l, rfl, _⟩ := h
    rfl
  · obtain ⟨a, ps, l, rfl, hp, io, pok, hl, q⟩ := h
    obtain ⟨xs, hS, hx, hlen⟩ := plan_inv hp
    have hn := pok.1
    refine ⟨_, ((pss_cons (ps_set (i := 2) sc__law_undone.nd rfl (Or.inl rfl) (pe_lst pa_nil))
  (pss_cons (ps_set (i := 3) sc__law_undone.nd rfl (Or.inl rfl) pe_int)
  (pss_cons (ps_for PassesOwn.never rfl (pi_list (pv 0)) (pg_name (i := 4) sc__law_undone.nd rfl (Or.inl rfl))
  (pss_cons (ps_set (i := 5) sc__law_undone.nd rfl (Or.inl rfl) (pe_op op_add (pe_ix ix_tup (pv 4) pe_int (fun _ _ => rfl)) (pv 3)))
  (pss_cons (ps_expr (pe_bm PySem.F.plainAttrs_list PySem.F.slot_list_append PySem.F.type_list_append mt_append (pv 2) (pa_cons (pe_tup (pa_cons (pv 5) (pa_cons (pe_op op_add (pv 5) (pe_callB Gx.cr_lenS (by rfl) T.z_len bt_len (pa_cons (pe_ix ix_tup (pv 4) pe_int (fun _ _ => rfl)) pa_nil))) (pa_cons (pe_slice sl_str (pv 1) (po_some (pe_ix ix_tup (pv 4) pe_int (fun _ _ => rfl))) (po_some (pe_ix ix_tup (pv 4) pe_int (fun _ _ => rfl)))) pa_nil)))) pa_nil)))
  (pss_one (ps_set (i := 3) sc__law_undone.nd rfl (Or.inl rfl) (pe_op op_add (pe_op op_sub (pe_op op_add (pv 3) (pe_callB Gx.cr_lenS (by rfl) T.z_len bt_len (pa_cons (pe_ix ix_tup (pv 4) pe_int (fun _ _ => rfl)) pa_nil))) (pe_ix ix_tup (pv 4) pe_int (fun _ _ => rfl))) (pe_ix ix_tup (pv 4) pe_int (fun _ _ => rfl))))))))
  (pss_one (ps_ret (pv 2))))))), ?_⟩
    rw [st__law_undone]
    try dsimp only [cxOf]
    walk_at "g"
    refine ⟨Gx.line (by decide), fun f nf => ?_⟩
    have E1 := Gx.ext1 (o := .lst []) nf
    generalize upd H f (.lst []) = H1 at E1 ⊢
    walk_at "g"
    refine ⟨⟨_, E1.same.seq hS⟩, for_list (K := K) (a := a) (xs := xs) (fun i σ H2 => ∃ (ys : List V) (done : List P3) (m : Int) (y z : Option V), Same H H2 ∧ H2 f = some (.lst ys) ∧ DpAll K H2 ys (done.map tupD) ∧ done.length = i ∧ bk l 0 ps = done ++ bk l m (ps.drop i) ∧
        (∃ R, 0 ≤ R ∧ InOrd l R (ps.drop i)) ∧ σ = [some (.ref a), some (.str (Gx.mkS l)), some (.ref f), some (.int m), y, z])
      ⟨[], [], 0, none, none, E1.same, E1.at_, .nil, rfl, rfl, ⟨0, by omega, io⟩, rfl⟩ (fun i σ H2 _ ⟨_, _, _, _, _, e, _⟩ => e.seq hS) ?_ ?_⟩
    · rintro i v σ H2 hi ⟨ys, done, m, y, z, s2, e2, d2, hd, eb, ⟨R, hR, ior⟩, rfl⟩
      obtain ⟨p, t, hp, rfl, ht⟩ := plan_get (Gx.dpAll_same s2 _ _ hx) hi
      rw [drop_cons hp] at eb ior
      obtain ⟨_, ⟨f1, f2, f3⟩, ior2⟩ := ior
      have hil : i < ps.length := (List.getElem?_eq_some_iff.mp hp).1
      have hpn := (pok.2 p (List.mem_of_getElem? hp)).1
      have hyl := Gx.dpAll_len d2
      rw [List.length_map] at hyl
      have ht' := ht
      unfold tupV at ht
      walk_at "g"
      refine ⟨Gx.line (by show 3 ≤ 16777216; decide), fun u nu => ?_⟩
      have E3 := Gx.ext1 (H := H2) (o := .tup [.int (p.1 + m), .int (p.1 + m + (p.2.2.length : Nat)), .str (Gx.mkS ((l.take p.2.1.toNat).drop p.1.toNat))]) nu
      generalize upd H2 u (.tup [.int (p.1 + m), .int (p.1 + m + (p.2.2.length : Nat)), .str (Gx.mkS ((l.take p.2.1.toNat).drop p.1.toNat))]) = H3 at E3 ⊢
      have e3 := E3.same _ _ e2
      have ht3 := E3.same.seqT ht
      have du : Dp K H3 (.ref u) (tupD (p.1 + m, p.1 + m + (p.2.2.length : Nat), (l.take p.2.1.toNat).drop p.1.toNat)) := tup_mk (SqT.of E3.at_)
      walk_at "g"
      have d4 := Gx.dpAll_snoc e3 (Gx.dpAll_same E3.same _ _ d2) (noLs_tup _) du (noL_tup _)
      have s4 : Same H (upd H3 f (.lst (ys ++ [.ref u]))) := Gx.Same.put (s2.trans E3.same) nf
      have e4 : (upd H3 f (.lst (ys ++ [.ref u]))) f = some (.lst (ys ++ [.ref u])) := upd_same
      have ht4 := Gx.Tups.upd (K := K) (ys := ys ++ [.ref u]) e3 _ _ ht3
      generalize upd H3 f (.lst (ys ++ [.ref u])) = H4 at d4 s4 e4 ht4 ⊢
      walk_at "g"
      refine ⟨_, done ++ [_], _, _, _, s4, e4, by rw [List.map_append]; exact d4, by rw [List.length_append, hd]; rfl, ?_, ⟨p.2.1, by omega, ior2⟩, rfl⟩
      rw [eb, bk, List.append_assoc, show m + ((p.2.2.length : Nat) - (p.2.1 - p.1)) = m + (p.2.2.length : Nat) - p.2.1 + p.1 by omega]
      rfl
    · rintro σ H2 ⟨ys, done, m, y, z, s2, e2, d2, hd, eb, _, rfl⟩
      rw [hlen, List.drop_length, bk, List.append_nil] at eb
      walk_at "g"
      refine q _ f s2 ?_
      rw [eb]
      exact .lst (SqL.of e2) d2
end
end K45
namespace K45
open PySem PySem.Spec PyProof.Rows L2
local macro_rules | `(tactic| walk_at "con") => `(tactic| first | with_reducible refine Gx.conE K45.ks0 ?_ | with_reducible refine Gx.conE K45.ks1 ?_ | with_reducible refine Gx.conE K45.ks2 ?_ | with_reducible refine Gx.conE K45.ks3 ?_ | with_reducible refine Gx.conE K45.ks4 ?_ | with_reducible refine Gx.conE K45.ks5 ?_ | with_reducible refine Gx.conE K45.ks6 ?_ | with_reducible refine Gx.conE K45.ks7 ?_ | with_reducible refine Gx.conE K45.ks8 ?_ | with_reducible refine Gx.conE K45.ks9 ?_ | with_reducible refine Gx.conE K45.ks10 ?_)
section
variable {P : Program} {w : World} {K : PySem.W.Frag} {mg : Str → Option Value} {base : Heap}
def sp_moved (K : PySem.W.Frag) : Sp := fun vs H Q _ => ∃ (t : Addr) (p : P3) (f l : Int), vs = [.ref t, .int f, .int l] ∧ SqT K H t (tupV p) ∧ ∀ H' u, Same H H' → SqT K H' u (tupV (p.1 + f, p.2.1 + l, p.2.2)) → Q (.ref u) H'
theorem G__law_moved (T : Txt K mg) : FnOk P w K mg base CX0 1 T.f__law_moved T.fd__law_moved ["splice", "first", "last"] (sp_moved K) := by
  refine T.F__law_moved.ok sc__law_moved (fun vs H Q E h => ?_) (fun cdv A outer s H vs Q E hr h => ?_)
  · obtain ⟨t, p, f, l, rfl, _⟩ := h
    rfl
  · obtain ⟨t, p, f, l, rfl, ht, q⟩ := h
    refine ⟨_, ((pss_one (ps_ret (pe_tup (pa_cons (pe_op op_add (pe_ix ix_tup (pv 0) pe_int (fun _ _ => rfl)) (pv 1)) (pa_cons (pe_op op_add (pe_ix ix_tup (pv 0) pe_int (fun _ _ => rfl)) (pv 2)) (pa_cons (pe_ix ix_tup (pv 0) pe_int (fun _ _ => rfl)) pa_nil))))))), ?_⟩
    rw [st__law_moved]
    try dsimp only [cxOf]
    unfold tupV at ht
    walk_at "g"
    exact Gx.newT (by show 3 ≤ 16777216; decide) fun u H1 E1 => q H1 u E1.same (SqT.of E1.at_)
def sp_made (K : PySem.W.Frag) (C : Addr) : Sp := fun vs H Q _ => ∃ (a : Addr) (ps : List P3), vs = [.ref a] ∧ Dp K H (.ref a) (planD ps) ∧ POk ps ∧ ∀ H' q rs, Same H H' → H' q = some (.lst (rs.map V.ref)) → SpsAt C H' rs ps → Q (.ref q) H'
theorem G__law_made (T : Txt K mg) : FnOk P w K mg base CX0 3 T.f__law_made T.fd__law_made ["plan"] (sp_made K T.a_Splice) := by
  have G_Splice_init := G_Splice_init (P := P) (w := w) (base := base) T
  refine T.F__law_made.ok sc__law_made (fun vs H Q E h => ?_) (fun cdv A outer s H vs Q E hr h => ?_)
  · obtain ⟨a, ps, rfl, _⟩ := h
    rfl
  · obtain ⟨a, ps, rfl, hp, pok, q⟩ := h
    obtain ⟨xs, hS, hx, hlen⟩ := plan_inv hp
    have hn := pok.1
    refine ⟨_, ((pss_one (ps_ret (pe_lc (own := [("splice", 1)]) (g := gName 1) (tt := tYes) (by rfl) sc__law_made.nd (pi_list (pv 0)) (blkOk_by (N := ["plan", "splice"]) (sc := defScope s__law_made) (by decide +kernel)) (fun _ _ _ _ _ => (pg_name (i := 1) sc__law_made.nd rfl (Or.inl rfl))) (fun _ _ _ _ _ => pts_nil) (fun _ _ _ _ _ => (pe_make T.M_Splice G_Splice_init (hr.mono (by first | decide | omega)) (by rfl) T.g_Splice T.b_Splice_init .nil pass0 (pa_cons (pe_ix (r := rIxT K) ix_tup (pv 1) pe_int (fun _ _ => rfl)) (pa_cons (pe_ix (r := rIxT K) ix_tup (pv 1) pe_int (fun _ _ => rfl)) (pa_cons (pe_ix (r := rIxT K) ix_tup (pv 1) pe_int (fun _ _ => rfl)) pa_nil))))))))), ?_⟩
    rw [st__law_made]
    try dsimp only [cxOf]
    walk_at "g"
    refine ⟨⟨_, hS⟩, fun D nD => lc_list (K := K) (a := a) (xs := xs) (fun i H2 => Same H H2 ∧ ∃ rs : List Addr, H2 D = some (.lst (rs.map V.ref)) ∧ SpsAt T.a_Splice H2 rs (ps.take i))
      ⟨Gx.Same.put (Same.refl H) nD, [], upd_same, by rw [List.take_zero]; trivial⟩ (fun i H2 _ ⟨s2, _⟩ => s2.seq hS) ?_ ?_⟩
    · rintro i v H2 hi ⟨s2, rs, e2, d2⟩
      obtain ⟨p, t, hp, rfl, ht⟩ := plan_get (Gx.dpAll_same s2 _ _ hx) hi
      have hil : i < ps.length := (List.getElem?_eq_some_iff.mp hp).1
      unfold tupV at ht
      walk_at "g"
      refine ⟨rfl, ?_⟩
      walk_at "g"
      intro x dy nx ndy ne
      refine ⟨x, dy, _, _, _, rfl, upd_same, fun H3 e3 e4 => ⟨rfl, ?_⟩⟩
      have s3 : Same H2 H3 := Gx.made_same nx ndy e4
      have e5 := s3 _ _ e2
      refine ⟨rs.map V.ref, e5, Gx.lineL (by rw [List.length_map, d2.len, List.length_take]; omega), Gx.Same.put (s2.trans s3) nD, rs ++ [x], by rw [upd_same, List.map_append]; rfl, ?_⟩
      rw [List.take_add_one, hp, Option.toList_some]
      exact SpsAt.put e5 ((d2.same s3).app ⟨⟨dy, e3⟩, trivial⟩)
    · rintro H2 ⟨s2, rs, e2, d2⟩
      rw [hlen, List.take_length] at d2
      exact q H2 D rs s2 e2 d2
def sp_told (K : PySem.W.Frag) (C : Addr) : Sp := fun vs H Q _ => ∃ (a : Addr) (rs : List Addr) (ps : List P3), vs = [.ref a] ∧ SqL K H a (rs.map V.ref) ∧ SpsAt C H rs ps ∧ ps.length ≤ 100 ∧ ∀ H' q, Same H H' → Dp K H' (.ref q) (planD ps) → Q (.ref q) H'
theorem G__law_told (T : Txt K mg) : FnOk P w K mg base CX0 1 T.f__law_told T.fd__law_told ["splices"] (sp_told K T.a_Splice) := by
  refine T.F__law_told.ok sc__law_told (fun vs H Q E h => ?_) (fun cdv A outer s H vs Q E hr h => ?_)
  · obtain ⟨a, rs, ps, rfl, _⟩ := h
    rfl
  · obtain ⟨a, rs, ps, rfl, hS, hps, hn, q⟩ := h
    refine ⟨_, ((pss_cons (ps_if (pt_not (pt_val (pe_callB call_isi (by rfl) T.z_isinstance bt_isinstance (pa_cons (pv 0) (pa_cons (pe_bltn (v := .ty "list") rfl T.z_list bt_list rfl) pa_nil)))))
  (pss_one (ps_ret pe_non))
  pss_nil)
  (pss_cons (ps_set (i := 1) sc__law_told.nd rfl (Or.inl rfl) (pe_lst pa_nil))
  (pss_cons (ps_for PassesOwn.never rfl (pi_list (pv 0)) (pg_name (i := 2) sc__law_told.nd rfl (Or.inl rfl))
  (pss_cons (ps_if (pt_not (pt_val (pe_callB call_isi (by rfl) T.z_isinstance bt_isinstance (pa_cons (pv 2) (pa_cons (pe_glob (v := .ref T.a_Splice) rfl T.g_Splice rfl) pa_nil)))))
  (pss_one (ps_ret pe_non))
  pss_nil)
  (pss_one (ps_expr (pe_bm PySem.F.plainAttrs_list PySem.F.slot_list_append PySem.F.type_list_append mt_append (pv 1) (pa_cons (pe_tup (pa_cons (pe_fld (pv 2) rfl) (pa_cons (pe_fld (pv 2) rfl) (pa_cons (pe_fld (pv 2) rfl) pa_nil)))) pa_nil))))))
  (pss_one (ps_ret (pv 1))))))), ?_⟩
    rw [st__law_told]
    try dsimp only [cxOf]
    walk_at "g"
    refine Gx.newL (by show 0 ≤ _; omega) fun f H1 E1 => ?_
    have nf := E1.fresh
    walk_at "g"
    refine ⟨⟨_, E1.same.seq hS⟩, for_list (K := K) (a := a) (xs := rs.map V.ref) (fun i σ H2 => ∃ (ys : List V) (y : Option V), Same H H2 ∧ H2 f = some (.lst ys) ∧ DpAll K H2 ys ((ps.take i).map tupD) ∧ σ = [some (.ref a), some (.ref f), y])
      ⟨[], none, E1.same, E1.at_, by rw [List.take_zero]; exact .nil, rfl⟩ (fun i σ H2 _ ⟨_, _, e, _⟩ => e.seq hS) ?_ ?_⟩
    · rintro i v σ H2 hi ⟨ys, y, s2, e2, d2, rfl⟩
      obtain ⟨r, hr0, rfl⟩ := map_get_ref hi
      obtain ⟨p, hp, sp⟩ := (hps.same s2).get hr0
      obtain ⟨dx, hx⟩ := id sp
      have hil : i < ps.length := (List.getElem?_eq_some_iff.mp hp).1
      have hyl := Gx.dpAll_len d2
      rw [List.length_map, List.length_take] at hyl
      walk_at "g"
      refine Gx.isi (.own _) (.base (.ins hx T.c_Splice T.ha_Splice T.hn_ T.htk_ T.hm_Splice)) (b := true) (by simp [PySem.W.kitOne]) ?_
      walk_at "g"
      refine ⟨r, T.a_Splice, dx, _, _, rfl, hx, T.c_Splice, T.n_Splice_start, lk_start _ _ _, ?_⟩
      walk_at "g"
      refine ⟨r, T.a_Splice, dx, _, _, rfl, hx, T.c_Splice, T.n_Splice_end, lk_end _ _ _, ?_⟩
      walk_at "g"
      refine ⟨r, T.a_Splice, dx, _, _, rfl, hx, T.c_Splice, T.n_Splice_new, lk_new _ _ _, ?_⟩
      walk_at "g"
      refine Gx.newT (by show 3 ≤ 16777216; decide) fun u H3 E3 => ?_
      have e3 := E3.same _ _ e2
      have du : Dp K H3 (.ref u) (tupD p) := tup_mk (SqT.of E3.at_)
      walk_at "g"
      have d4 := Gx.dpAll_snoc e3 (Gx.dpAll_same E3.same _ _ d2) (noLs_tup _) du (noL_tup _)
      refine ⟨_, _, Gx.Same.put (s2.trans E3.same) nf, upd_same, ?_, rfl⟩
      rw [List.take_add_one, hp, Option.toList_some, List.map_append]
      exact d4
    · rintro σ H2 ⟨ys, y, s2, e2, d2, rfl⟩
      rw [List.length_map, hps.len, List.take_length] at d2
      walk_at "g"
      exact q _ f s2 (.lst (SqL.of e2) d2)
end
end K45
namespace K45
open PySem PySem.Spec PyProof.Rows L2
local macro_rules | `(tactic| walk_at "con") => `(tactic| first | with_reducible refine Gx.conE K45.ks0 ?_ | with_reducible refine Gx.conE K45.ks1 ?_ | with_reducible refine Gx.conE K45.ks2 ?_ | with_reducible refine Gx.conE K45.ks3 ?_ | with_reducible refine Gx.conE K45.ks4 ?_ | with_reducible refine Gx.conE K45.ks5 ?_ | with_reducible refine Gx.conE K45.ks6 ?_ | with_reducible refine Gx.conE K45.ks7 ?_ | with_reducible refine Gx.conE K45.ks8 ?_ | with_reducible refine Gx.conE K45.ks9 ?_ | with_reducible refine Gx.conE K45.ks10 ?_)
section
variable {P : Program} {w : World} {K : PySem.W.Frag} {mg : Str → Option Value} {base : Heap}
theorem ecB (T : Txt K mg) : ExcC K T.a_BadSplice := ⟨T.ecg, T.eck, T.bP_BadSplice, T.ecd, T.eca, T.hn_, T.htk_, T.ecm⟩
def sp_refused (K : PySem.W.Frag) (C : Addr) : Sp := fun vs H Q _ => ∃ (a : Addr) (rs : List Addr) (ps : List P3) (l : List Nat) (b : Bool), vs = [.ref a, .str (Gx.mkS l), .bl b] ∧ SqL K H a (rs.map V.ref) ∧ SpsAt C H rs ps ∧ l.length ≤ 5000 ∧ Small ps ∧ ¬ InOrd l 0 ps ∧ ∀ H', Same H H' → Q (.bl true) H'
theorem G__law_refused (T : Txt K mg) : FnOk P w K mg base CX0 5 T.f__law_refused T.fd__law_refused ["splices", "text", "back"] (sp_refused K T.a_Splice) := by
  have G_all_applied := G_all_applied (P := P) (w := w) (base := base) T
  have G_all_back := G_all_back (P := P) (w := w) (base := base) T
  have ec := ecB T
  refine T.F__law_refused.ok sc__law_refused (fun vs H Q E h => ?_) (fun cdv A outer s H vs Q E hr h => ?_)
  · obtain ⟨a, rs, ps, l, b, rfl, _⟩ := h
    rfl
  · obtain ⟨a, rs, ps, l, b, rfl, hS, hps, hl, sm, no, q⟩ := h
    have hr2 : Room 2 _ := hr.mono (by decide)
    have hr3 : Room 3 _ := hr.mono (by decide)
    refine ⟨_, ((C8.pss_cut (ps_try_as (i := 3) (tb := fun W => tIfS (tB (tVar 2)) (tDrop (tCallS (sp_allback K T.a_Splice T.a_BadSplice) (WE W) (tCons (tVar 0) (tCons (tVar 1) tNil)))) (tDrop (tCallS (sp_applied K T.a_Splice T.a_BadSplice) (WE W) (tCons (tVar 0) (tCons (tVar 1) tNil))))) (ts := fun a cls d => tRet (tAndV (tCB (Gx.rIsE' K T.a_BadSplice a cls d) (tCons (tVar 3) (tCons (tC (.ref T.a_BadSplice)) tNil))) (tCB (Gx.rIsE' K T.a_BadSplice a cls d) (tCons (tVar 3) (tCons (tC (.ty "ValueError")) tNil))))) (Wout := fun _ _ _ _ => False) rfl rfl sc__law_refused.nd rfl rfl ⟨rfl, by decide, .inl T.g_LensError⟩ takes0 (fun W pn xe tk _ => pss_one (ps_if (pt_val (pv 2)) (pss_one (ps_expr (by exact (pe_callS G_all_back hr3 rfl T.g_all_back T.F_all_back.kp T.b_all_back (fun σ => passAt tk σ) (by exact (pa_cons (pv 0) (pa_cons (pv 1) pa_nil))))))) (pss_one (ps_expr (by exact (pe_callS G_all_applied hr2 rfl T.g_all_applied T.F_all_applied.kp T.b_all_applied (fun σ => passAt tk σ) (by exact (pa_cons (pv 0) (pa_cons (pv 1) pa_nil))))))))) (fun a oe cls d pn hz hf => pss_one (ps_ret (by exact (pe_and (pe_callB (Gx.cr_isE ec hz hf) (by rfl) T.z_isinstance bt_isinstance (by exact (pa_cons (pv 3) (pa_cons (pe_glob (v := .ref T.a_BadSplice) rfl T.g_BadSplice rfl) pa_nil)))) (pe_one (pe_callB (Gx.cr_isE ec hz hf) (by rfl) T.z_isinstance bt_isinstance (by exact (pa_cons (pv 3) (pa_cons (pe_bltn (v := .ty "ValueError") rfl T.z_ValueError bt_ValueError rfl) pa_nil))))))))))
  (pss_one (ps_ret pe_bl)))), ?_⟩
    rw [st__law_refused]
    try dsimp only [cxOf]
    walk_at "g"
    refine ⟨fun _ _ => False, ?_, fun σ' H' z => z.elim⟩
    show tIfS _ _ _ _ _ _
    have fin : ∀ H', Same H H' → ∀ D : Ends, D.rt = Q → wAs K (.ref T.a_LensError) 3 (fun a cls d => tRet (tAndV (tCB (Gx.rIsE' K T.a_BadSplice a cls d) (tCons (tVar 3) (tCons (tC (.ref T.a_BadSplice)) tNil))) (tCB (Gx.rIsE' K T.a_BadSplice a cls d) (tCons (tVar 3) (tCons (tC (.ty "ValueError")) tNil))))) (fun _ _ _ _ => False) D (.ref T.a_BadSplice) none [some (.ref a), some (.str (Gx.mkS l)), some (.bl b), none] H' := by
      intro H' s' D hD
      refine ⟨true, T.em_bl, fun _ x na => ?_, fun z => nomatch z⟩
      walk_at "g"
      refine ⟨rfl, rfl, V.ref T.a_BadSplice, .ref T.a_BadSplice, true, rfl, fun u r => r, by simp [PySem.W.kitOne], ?_⟩
      walk_at "g"
      refine ⟨rfl, rfl, V.ty "ValueError", .type "ValueError", true, rfl, fun u r => r, T.kv_bs, ?_⟩
      rw [hD]
      exact q H' s'
    walk_at "g"
    refine Gx.iteB (fun hb => ?_) (fun hb => ?_)
    · walk_at "g"
      exact ⟨a, rs, ps, l, rfl, hS, hps, hl, sm, fun z => (no z).elim, fun _ H' s' => fin H' s' _ rfl⟩
    · walk_at "g"
      exact ⟨a, rs, ps, l, rfl, hS, hps, hl, sm, fun z => (no z).elim, fun _ => fin H (Same.refl H) _ rfl⟩
def sp_plan (K : PySem.W.Frag) : Sp := fun vs H Q _ => ∃ (a : Addr) (xs : List Int) (l : List Nat), vs = [.ref a, .str (Gx.mkS l)] ∧ SqL K H a (xs.map V.int) ∧ 0 < xs.length ∧ l.length ≤ 54 ∧ Gx.Cp l ∧ ∀ H' q ps, Same H H' → Dp K H' (.ref q) (planD ps) → ps.length ≤ 8 → (∀ p ∈ ps, p.2.2.length ≤ 60 ∧ Gx.Cp p.2.2) → Q (.ref q) H'
theorem sgn_lt (i : Int) : sgn i < 1114112 := by
  have : ∀ n : Nat, [58, 59, 97, 98, 99].getD n 0 < 1114112 := by
    intro n
    match n with
    | 0 => decide
    | 1 => decide
    | 2 => decide
    | 3 => decide
    | 4 => decide
    | n + 5 => simp
  exact this _
theorem txtL_cp (xs : List Int) (i : Int) (n : Nat) : Gx.Cp (txtL xs i n) := fun c hc => by
  unfold txtL at hc
  obtain ⟨k, _, rfl⟩ := List.mem_map.mp hc
  exact sgn_lt _
theorem G__law_plan (T : Txt K mg) : FnOk P w K mg base CX0 3 T.f__law_plan T.fd__law_plan ["numbers", "text"] (sp_plan K) := by
  have G__law_pick := G__law_pick (P := P) (w := w) (base := base) T
  have G__law_wide := G__law_wide (P := P) (w := w) (base := base) T
  have G__law_text := G__law_text (P := P) (w := w) (base := base) T
  refine T.F__law_plan.ok sc__law_plan (fun vs H Q E h => ?_) (fun cdv A outer s H vs Q E hr h => ?_)
  · obtain ⟨a, xs, l, rfl, _⟩ := h
    rfl
  · obtain ⟨a, xs, l, rfl, hS, hl, h54, hcp, q⟩ := h
    refine ⟨_, ((pss_cons (ps_set (i := 2) sc__law_plan.nd rfl (Or.inl rfl) (pe_call G__law_pick (hr.mono (by first | decide | omega)) (by rfl) T.g__law_pick T.F__law_pick.kp T.b__law_pick .nil pass0 (pa_cons (pv 0) (pa_cons pe_int (pa_cons pe_int pa_nil)))))
  (pss_cons (ps_set (i := 3) sc__law_plan.nd rfl (Or.inl rfl) (pe_callB cr_sortedI (by rfl) T.z_sorted bt_sorted (pa_cons (pe_lc (own := [("k", 4)]) (g := gName 4) (tt := tYes) (by rfl) sc__law_plan.nd (pi_range1 rfl T.z_range (pa_cons (pe_op op_mul pe_int (pv 2)) pa_nil)) (blkOk_by (N := ["numbers", "text", "many", "marks", "k", "room", "found", "new"]) (sc := defScope s__law_plan) (by decide +kernel)) (fun _ _ _ _ _ => (pg_name (i := 4) sc__law_plan.nd rfl (Or.inl rfl))) (fun _ _ _ _ _ => pts_nil) (fun _ _ _ _ _ => (pe_call G__law_wide (hr.mono (by first | decide | omega)) (by rfl) T.g__law_wide T.F__law_wide.kp T.b__law_wide .nil pass0 (pa_cons (pv 0) (pa_cons (pe_op op_add pe_int (pe_op op_mul pe_int (pv 4))) (pa_cons (pe_op op_add (pe_callB Gx.cr_lenS (by rfl) T.z_len bt_len (pa_cons (pv 1) pa_nil)) pe_int) pa_nil)))))) pa_nil)))
  (pss_cons (ps_set (i := 5) sc__law_plan.nd rfl (Or.inl rfl) (pe_op op_sub pe_int (pe_callB Gx.cr_lenS (by rfl) T.z_len bt_len (pa_cons (pv 1) pa_nil))))
  (pss_cons (ps_set (i := 6) sc__law_plan.nd rfl (Or.inl rfl) (pe_lst pa_nil))
  (pss_cons (ps_for PassesOwn.never rfl (pi_range1 rfl T.z_range (pa_cons (pv 2) pa_nil)) (pg_name (i := 4) sc__law_plan.nd rfl (Or.inl rfl))
  (pss_cons (ps_set (i := 7) sc__law_plan.nd rfl (Or.inl rfl) (pe_slice sl_str (pv 1) (po_some (pe_ix ix_list (pv 3) (pe_op op_mul pe_int (pv 4)) (fun _ _ => rfl))) (po_some (pe_ix ix_list (pv 3) (pe_op op_add (pe_op op_mul pe_int (pv 4)) pe_int) (fun _ _ => rfl)))))
  (C8.pss_cut (ps_if (pt_cmpR op_gt (pe_call G__law_pick (hr.mono (by first | decide | omega)) (by rfl) T.g__law_pick T.F__law_pick.kp T.b__law_pick .nil pass0 (pa_cons (pv 0) (pa_cons (pe_op op_add pe_int (pv 4)) (pa_cons pe_int pa_nil)))) pe_int (nomark _))
  (pss_cons (ps_set (i := 7) sc__law_plan.nd rfl (Or.inl rfl) (pe_call G__law_text (hr.mono (by first | decide | omega)) (by rfl) T.g__law_text T.F__law_text.kp T.b__law_text .nil pass0 (pa_cons (pv 0) (pa_cons (pe_op op_add pe_int (pe_op op_mul pe_int (pv 4))) (pa_cons (pe_callB (Gx.cr_min2 rfl) (by rfl) T.z_min bt_min (pa_cons (pv 5) (pa_cons (pe_call G__law_pick (hr.mono (by first | decide | omega)) (by rfl) T.g__law_pick T.F__law_pick.kp T.b__law_pick .nil pass0 (pa_cons (pv 0) (pa_cons (pe_op op_add pe_int (pv 4)) (pa_cons pe_int pa_nil)))) pa_nil))) pa_nil)))))
  (pss_one (ps_set (i := 5) sc__law_plan.nd rfl (Or.inl rfl) (pe_op op_sub (pv 5) (pe_callB Gx.cr_lenS (by rfl) T.z_len bt_len (pa_cons (pv 7) pa_nil))))))
  pss_nil)
  (pss_one (ps_expr (pe_bm PySem.F.plainAttrs_list PySem.F.slot_list_append PySem.F.type_list_append mt_append (pv 6) (pa_cons (pe_tup (pa_cons (pe_ix ix_list (pv 3) (pe_op op_mul pe_int (pv 4)) (fun _ _ => rfl)) (pa_cons (pe_ix ix_list (pv 3) (pe_op op_add (pe_op op_mul pe_int (pv 4)) pe_int) (fun _ _ => rfl)) (pa_cons (pv 7) pa_nil)))) pa_nil)))))))
  (pss_one (ps_ret (pv 6))))))))), ?_⟩
    rw [st__law_plan]
    try dsimp only [cxOf]
    walk_at "g"
    refine ⟨a, xs, _, _, rfl, hS, hl, by omega, ?_⟩
    have m0 := pick_0 xs 2 (m := 9) (by omega)
    have m1 := pick_lt xs 2 (m := 9) (by omega)
    walk_at "g"
    refine ⟨_, rfl, by omega, by omega, fun D nD => lc_range (fun i H1 => Same H H1 ∧ ∃ ms : List Int, H1 D = some (.lst (ms.map V.int)) ∧ ms.length = i ∧ ∀ x ∈ ms, 0 ≤ x)
      ⟨Gx.Same.put (Same.refl H) nD, [], upd_same, rfl, fun x hx => by cases hx⟩ ?_ ?_⟩
    · rintro i H1 hi ⟨s1, ms, e1, l1, p1⟩
      have hS1 : SqL K H1 a (xs.map V.int) := s1.seq hS
      walk_at "g"
      refine ⟨rfl, ?_⟩
      walk_at "g"
      refine ⟨a, xs, _, _, rfl, hS1, hl, by omega, ?_⟩
      have y0 := wide_0 xs (64 + 2 * (0 + (i : Int))) (m := (l.length : Int) + 1) (by omega)
      refine ⟨_, e1, Gx.lineL (by rw [List.length_map]; omega), Gx.Same.put s1 nD, ms ++ [wide xs (64 + 2 * (0 + (i : Int))) ((l.length : Int) + 1)], by rw [upd_same, List.map_append]; rfl, by rw [List.length_append, l1]; rfl, fun x hx => ?_⟩
      rcases List.mem_append.mp hx with h | h
      · exact p1 x h
      · cases List.mem_singleton.mp h
        exact y0
    · rintro H1 ⟨s1, ms, e1, l1, p1⟩
      walk_at "g"
      refine Gx.sortI (SqL.of e1) fun ns' p2 H2 pm _ E2 => ?_
      have l2 : ns'.length = 2 * (pick xs 2 9).toNat := by rw [pm.length_eq, l1]; omega
      have p2' : ∀ x ∈ ns', 0 ≤ x := fun x hx => p1 x (pm.subset hx)
      have s2 : Same H H2 := s1.trans E2.same
      walk_at "g"
      refine Gx.newL (by show 0 ≤ _; omega) fun f H3 E3 => ?_
      have nf : H f = none := (s2.free E3.fresh)
      walk_at "g"
      refine ⟨_, rfl, by omega, by omega, for_range (fun i σ H4 => ∃ (ps : List P3) (vs : List V) (room : Int) (y z : Option V), Same H2 H4 ∧ H4 f = some (.lst vs) ∧ DpAll K H4 vs (ps.map tupD) ∧ ps.length = i ∧ (∀ p ∈ ps, p.2.2.length ≤ 60 ∧ Gx.Cp p.2.2) ∧ 0 ≤ room ∧ room ≤ 56 ∧
          σ = [some (.ref a), some (.str (Gx.mkS l)), some (.int (pick xs 2 9)), some (.ref p2), y, some (.int room), some (.ref f), z])
        ⟨[], [], _, none, none, E3.same, E3.at_, .nil, rfl, fun p hp => (nomatch hp), by omega, by omega, rfl⟩ ?_ ?_⟩
      · rintro i σ H4 hi ⟨ps, vs, room, y, z, s4, e4, d4, li, pk, r0, r1, rfl⟩
        have hm4 : SqL K H4 p2 (ns'.map V.int) := SqL.of (s4 _ _ E2.at_)
        have hS4 : SqL K H4 a (xs.map V.int) := (s2.trans s4).seq hS
        have g1 : 0 ≤ ns'.getD (2 * (0 + (i : Int))).toNat 0 := by
          have hb : (2 * (0 + (i : Int))).toNat < ns'.length := by omega
          rw [List.getD_eq_getElem?_getD, List.getElem?_eq_getElem hb]
          exact p2' _ (List.getElem_mem hb)
        have g2 : 0 ≤ ns'.getD (2 * (0 + (i : Int)) + 1).toNat 0 := by
          have hb : (2 * (0 + (i : Int)) + 1).toNat < ns'.length := by omega
          rw [List.getD_eq_getElem?_getD, List.getElem?_eq_getElem hb]
          exact p2' _ (List.getElem_mem hb)
        generalize hu : ns'.getD (2 * (0 + (i : Int))).toNat 0 = u at g1
        generalize hw : ns'.getD (2 * (0 + (i : Int)) + 1).toNat 0 = w' at g2
        walk_at "g"
        rw [hu]
        refine ⟨fun σ H5 => ∃ (new : List Nat) (room' : Int), Same H4 H5 ∧ (∀ ds, H5 f = some (.lst ds) ↔ H4 f = some (.lst ds)) ∧ new.length ≤ 60 ∧ Gx.Cp new ∧ 0 ≤ room' ∧ room' ≤ 56 ∧ σ = [some (.ref a), some (.str (Gx.mkS l)), some (.int (pick xs 2 9)), some (.ref p2), some (.int (0 + (i : Int))), some (.int room'), some (.ref f), some (.str (Gx.mkS new))], ?_, ?_⟩
        · walk_at "g"
          refine ⟨a, xs, _, _, rfl, hS4, hl, by omega, ?_⟩
          walk_at "g"
          refine Gx.iteD (fun h => ?_) (fun h => ?_)
          · walk_at "g"
            refine ⟨a, xs, _, _, rfl, hS4, hl, by omega, ?_⟩
            have y0 := pick_0 xs (96 + (0 + (i : Int))) (m := 5) (by omega)
            have y1 := pick_lt xs (96 + (0 + (i : Int))) (m := 5) (by omega)
            walk_at "g"
            have hmin : 0 ≤ (if pick xs (96 + (0 + (i : Int))) 5 < room then pick xs (96 + (0 + (i : Int))) 5 else room) ∧ (if pick xs (96 + (0 + (i : Int))) 5 < room then pick xs (96 + (0 + (i : Int))) 5 else room) ≤ 5 ∧ (if pick xs (96 + (0 + (i : Int))) 5 < room then pick xs (96 + (0 + (i : Int))) 5 else room) ≤ room := by
              split <;> omega
            generalize (if pick xs (96 + (0 + (i : Int))) 5 < room then pick xs (96 + (0 + (i : Int))) 5 else room) = k at hmin ⊢
            refine ⟨a, xs, _, _, rfl, hS4, hl, hmin.1, by omega, fun H5 s5 => ?_⟩
            have tn := txtL_len xs (112 + 4 * (0 + (i : Int))) k.toNat
            have tc := txtL_cp xs (112 + 4 * (0 + (i : Int))) k.toNat
            generalize txtL xs (112 + 4 * (0 + (i : Int))) k.toNat = new at tn tc ⊢
            walk_at "g"
            have e5 := s5 _ _ e4
            exact ⟨new, _, s5, fun ds => by rw [e5, e4], by omega, tc, by omega, by omega, rfl⟩
          · walk_at "g"
            exact ⟨_, _, Same.refl H4, fun ds => Iff.rfl, by simp only [List.length_drop, List.length_take]; omega, (hcp.take _).drop _, r0, r1, rfl⟩
        · rintro σ H5 ⟨new, room', s5, ef, hn, hc, q0, q1, rfl⟩
          have e5 := (ef _).mpr e4
          have hm5 := s5.seq hm4
          walk_at "g"
          rw [hu, hw]
          refine Gx.newT (by show 3 ≤ 16777216; decide) fun t H6 E6 => ?_
          have e6 := E6.same _ _ e5
          have hvl := Gx.dpAll_len d4
          rw [List.length_map] at hvl
          have dt : Dp K H6 (.ref t) (tupD (u, w', new)) := tup_mk (SqT.of E6.at_)
          walk_at "g"
          have d7 := Gx.dpAll_snoc e6 (Gx.dpAll_same (s5.trans E6.same) _ _ d4) (noLs_tup _) dt (noL_tup _)
          refine ⟨ps ++ [(u, w', new)], _, room', _, _, Gx.Same.put ((s4.trans s5).trans E6.same) E3.fresh, upd_same, by rw [List.map_append]; exact d7, by rw [List.length_append, li]; rfl, fun p hp => ?_, q0, q1, rfl⟩
          rcases List.mem_append.mp hp with h | h
          · exact pk p h
          · cases List.mem_singleton.mp h
            exact ⟨hn, hc⟩
      · rintro σ H4 ⟨ps, vs, room, y, z, s4, e4, d4, li, pk, r0, r1, rfl⟩
        walk_at "g"
        exact q H4 f ps (s2.trans s4) (.lst (SqL.of e4) d4) (by omega) pk
end
end K45
namespace K45
open PySem PySem.Spec PyProof.Rows L2
local macro_rules | `(tactic| walk_at "con") => `(tactic| first | with_reducible refine Gx.conE K45.ks0 ?_ | with_reducible refine Gx.conE K45.ks1 ?_ | with_reducible refine Gx.conE K45.ks2 ?_ | with_reducible refine Gx.conE K45.ks3 ?_ | with_reducible refine Gx.conE K45.ks4 ?_ | with_reducible refine Gx.conE K45.ks5 ?_ | with_reducible refine Gx.conE K45.ks6 ?_ | with_reducible refine Gx.conE K45.ks7 ?_ | with_reducible refine Gx.conE K45.ks8 ?_ | with_reducible refine Gx.conE K45.ks9 ?_ | with_reducible refine Gx.conE K45.ks10 ?_)
section
variable {P : Program} {w : World} {K : PySem.W.Frag} {mg : Str → Option Value} {base : Heap}
theorem can_ok : ∀ p : P3, Gx.Cp p.2.2 → PyData.canLay0 (tupD p) = true := fun p h => by
  simp [tupD, PyData.canLay0, PyData.canLayAll0, h.ok]
theorem can_oks : ∀ ps : List P3, (∀ p ∈ ps, Gx.Cp p.2.2) → PyData.canLayAll0 (ps.map tupD) = true
  | [], _ => rfl
  | p :: ps, h => by
    rw [List.map_cons, PyData.canLayAll0, can_ok p (h p List.mem_cons_self), can_oks ps fun q hq => h q (List.mem_cons_of_mem _ hq)]
    rfl
theorem dep_tup (p : P3) : PyData.depth (tupD p) = 1 := rfl
theorem dep_tups : ∀ ps : List P3, PyData.depthAll (ps.map tupD) ≤ 1
  | [] => by show 0 ≤ 1; omega
  | p :: ps => by
    rw [List.map_cons, PyData.depthAll, dep_tup]
    have := dep_tups ps
    omega
theorem dep_plan (ps : List P3) : PyData.depth (planD ps) ≤ 2 := by
  have := dep_tups ps
  rw [planD, PyData.depth]
  omega
theorem shaped_plan {ps : List P3} (h : ∀ p ∈ ps, Gx.Cp p.2.2) : SeqAt.shaped (planD ps) = true := by
  unfold SeqAt.shaped
  rw [show PyData.canLay0 (planD ps) = true from can_oks ps h, Bool.true_and]
  have := dep_plan ps
  exact decide_eq_true (by omega)
theorem okDs_plan : ∀ ps : List P3, (∀ p ∈ ps, Gx.Cp p.2.2) → Gx.okDs (ps.map tupD) = true
  | [], _ => rfl
  | p :: ps, h => by
    rw [List.map_cons, Gx.okDs, okDs_plan ps fun q hq => h q (List.mem_cons_of_mem _ hq)]
    have := (h p List.mem_cons_self).ok
    simp [tupD, Gx.okD, Gx.okDs, this]
theorem okD_plan {ps : List P3} (h : ∀ p ∈ ps, Gx.Cp p.2.2) (n : ps.length ≤ 100) : Gx.okD (planD ps) = true := by
  rw [planD, Gx.okD, okDs_plan ps h, List.length_map]
  simp only [Bool.and_true, decide_eq_true_eq]
  omega
theorem fin3 {H : Hp} {p : Addr} {us vs : List V} {ps ms : List P3} {i j : Nat} (e : H p = some (.lst ((us.take i ++ vs) ++ us.drop j))) (hx : DpAll K H us (ps.map tupD)) (hm : DpAll K H vs (ms.map tupD)) : Dp K H (.ref p) (planD (ps.take i ++ ms ++ ps.drop j)) := by
  refine .lst (SqL.of e) ?_
  rw [List.map_append, List.map_append, List.map_take, List.map_drop]
  exact Gx.dpAll_app (Gx.dpAll_app (Gx.dpAll_take _ hx) hm) (Gx.dpAll_drop _ hx)
theorem fin3k {ps ms : List P3} {i j : Nat} (h : ∀ p ∈ ps, p.2.2.length ≤ 60 ∧ Gx.Cp p.2.2) (g : ∀ p ∈ ms, p.2.2.length ≤ 60 ∧ Gx.Cp p.2.2) : ∀ p ∈ ps.take i ++ ms ++ ps.drop j, p.2.2.length ≤ 60 ∧ Gx.Cp p.2.2 := fun p hp => by
  rcases List.mem_append.mp hp with hp | hp
  · rcases List.mem_append.mp hp with hp | hp
    · exact h p (List.mem_of_mem_take hp)
    · exact g p hp
  · exact h p (List.mem_of_mem_drop hp)
def sp_changed (K : PySem.W.Frag) : Sp := fun vs H Q _ => ∃ (a b : Addr) (ps : List P3) (xs : List Int) (at_ size : Int), vs = [.ref a, .ref b, .int at_, .int size] ∧ Dp K H (.ref a) (planD ps) ∧ ps.length ≤ 20 ∧ (∀ p ∈ ps, p.2.2.length ≤ 60 ∧ Gx.Cp p.2.2) ∧
  SqL K H b (xs.map V.int) ∧ 0 < xs.length ∧ 0 ≤ size ∧ ∀ H' q ps', Same H H' → Dp K H' (.ref q) (planD ps') → ps'.length ≤ 21 → (∀ p ∈ ps', p.2.2.length ≤ 60 ∧ Gx.Cp p.2.2) → Q (.ref q) H'
theorem G__law_changed (T : Txt K mg) : FnOk P w K mg base CX0 3 T.f__law_changed T.fd__law_changed ["plan", "numbers", "at", "size"] (sp_changed K) := by
  have G__law_pick := G__law_pick (P := P) (w := w) (base := base) T
  have G__law_wide := G__law_wide (P := P) (w := w) (base := base) T
  have G__law_moved := G__law_moved (P := P) (w := w) (base := base) T
  refine T.F__law_changed.ok sc__law_changed (fun vs H Q E h => ?_) (fun cdv A outer s H vs Q E hr h => ?_)
  · obtain ⟨a, b, ps, xs, at_, size, rfl, _⟩ := h
    rfl
  · obtain ⟨a, b, ps, xs, at_, size, rfl, hp, hn, pok, hS, hl, h0, q⟩ := h
    obtain ⟨us, hU, hx, hlen⟩ := plan_inv hp
    refine ⟨_, ((pss_cons (ps_if (pt_cmpR (op_eqD hr.units) (pv 0) (pe_lst pa_nil) (nomark _))
  (pss_cons (ps_set (i := 4) sc__law_changed.nd rfl (Or.inl rfl) (pe_op op_sub (pe_call G__law_wide (hr.mono (by first | decide | omega)) (by rfl) T.g__law_wide T.F__law_wide.kp T.b__law_wide .nil pass0 (pa_cons (pv 1) (pa_cons (pe_op op_add (pv 2) pe_int) (pa_cons (pe_op op_add (pv 3) pe_int) pa_nil)))) pe_int))
  (pss_one (ps_ret (pe_lst (pa_cons (pe_tup (pa_cons (pv 4) (pa_cons (pe_op op_sub (pe_call G__law_wide (hr.mono (by first | decide | omega)) (by rfl) T.g__law_wide T.F__law_wide.kp T.b__law_wide .nil pass0 (pa_cons (pv 1) (pa_cons (pe_op op_add (pv 2) pe_int) (pa_cons (pe_op op_add (pv 3) pe_int) pa_nil)))) pe_int) (pa_cons pe_str pa_nil)))) pa_nil)))))
  pss_nil)
  (pss_cons (ps_set (i := 5) sc__law_changed.nd rfl (Or.inl rfl) (pe_call G__law_pick (hr.mono (by first | decide | omega)) (by rfl) T.g__law_pick T.F__law_pick.kp T.b__law_pick .nil pass0 (pa_cons (pv 1) (pa_cons (pe_op op_add (pv 2) pe_int) (pa_cons (pe_callB Gx.cr_lenQ (by rfl) T.z_len bt_len (pa_cons (pv 0) pa_nil)) pa_nil)))))
  (pss_cons (ps_set (i := 6) sc__law_changed.nd rfl (Or.inl rfl) (pe_ix ix_list (pv 0) (pv 5) (fun _ _ => rfl)))
  (pss_cons (ps_set (i := 7) sc__law_changed.nd rfl (Or.inl rfl) (pe_call G__law_pick (hr.mono (by first | decide | omega)) (by rfl) T.g__law_pick T.F__law_pick.kp T.b__law_pick .nil pass0 (pa_cons (pv 1) (pa_cons (pv 2) (pa_cons pe_int pa_nil)))))
  (pss_cons (ps_if (pt_cmpR op_eq (pv 7) pe_int (nomark _))
  (pss_one (ps_ret (pe_op op_cat (pe_op op_cat (pe_slice sl_list (pv 0) po_none (po_some (pv 5))) (pe_lst (pa_cons (pe_call G__law_moved (hr.mono (by first | decide | omega)) (by rfl) T.g__law_moved T.F__law_moved.kp T.b__law_moved .nil pass0 (pa_cons (pv 6) (pa_cons (pe_un un_neg pe_int) (pa_cons pe_int pa_nil)))) pa_nil))) (pe_slice sl_list (pv 0) (po_some (pe_op op_add (pv 5) pe_int)) po_none))))
  pss_nil)
  (pss_cons (ps_if (pt_cmpR op_eq (pv 7) pe_int (nomark _))
  (pss_one (ps_ret (pe_op op_cat (pe_op op_cat (pe_slice sl_list (pv 0) po_none (po_some (pv 5))) (pe_lst (pa_cons (pe_call G__law_moved (hr.mono (by first | decide | omega)) (by rfl) T.g__law_moved T.F__law_moved.kp T.b__law_moved .nil pass0 (pa_cons (pv 6) (pa_cons pe_int (pa_cons pe_int pa_nil)))) pa_nil))) (pe_slice sl_list (pv 0) (po_some (pe_op op_add (pv 5) pe_int)) po_none))))
  pss_nil)
  (pss_cons (ps_if (pt_cmpR op_eq (pv 7) pe_int (nomark _))
  (pss_one (ps_ret (pe_op op_cat (pe_op op_cat (pe_slice sl_list (pv 0) po_none (po_some (pv 5))) (pe_lst (pa_cons (pe_call G__law_moved (hr.mono (by first | decide | omega)) (by rfl) T.g__law_moved T.F__law_moved.kp T.b__law_moved .nil pass0 (pa_cons (pv 6) (pa_cons pe_int (pa_cons pe_int pa_nil)))) pa_nil))) (pe_slice sl_list (pv 0) (po_some (pe_op op_add (pv 5) pe_int)) po_none))))
  pss_nil)
  (pss_cons (ps_if (pt_cmpR op_eq (pv 7) pe_int (nomark _))
  (pss_one (ps_ret (pe_op op_cat (pe_op op_cat (pe_op op_cat (pe_slice sl_list (pv 0) po_none (po_some (pv 5))) (pe_slice sl_list (pv 0) (po_some (pe_op op_add (pv 5) pe_int)) (po_some (pe_op op_add (pv 5) pe_int)))) (pe_lst (pa_cons (pv 6) pa_nil))) (pe_slice sl_list (pv 0) (po_some (pe_op op_add (pv 5) pe_int)) po_none))))
  pss_nil)
  (pss_cons (ps_if (pt_cmpR op_eq (pv 7) pe_int (nomark _))
  (pss_one (ps_ret (pe_op op_cat (pe_op op_cat (pe_slice sl_list (pv 0) po_none (po_some (pv 5))) (pe_lst (pa_cons (pv 6) (pa_cons (pv 6) pa_nil)))) (pe_slice sl_list (pv 0) (po_some (pe_op op_add (pv 5) pe_int)) po_none))))
  pss_nil)
  (pss_cons (ps_if (pt_cmpR op_eq (pv 7) pe_int (nomark _))
  (pss_one (ps_ret (pe_op op_cat (pe_op op_cat (pe_slice sl_list (pv 0) po_none (po_some (pv 5))) (pe_lst (pa_cons (pe_tup (pa_cons (pe_ix ix_tup (pv 6) pe_int (fun _ _ => rfl)) (pa_cons (pe_op op_add (pe_op op_add (pv 3) pe_int) (pe_call G__law_pick (hr.mono (by first | decide | omega)) (by rfl) T.g__law_pick T.F__law_pick.kp T.b__law_pick .nil pass0 (pa_cons (pv 1) (pa_cons (pe_op op_add (pv 2) pe_int) (pa_cons pe_int pa_nil))))) (pa_cons (pe_ix ix_tup (pv 6) pe_int (fun _ _ => rfl)) pa_nil)))) pa_nil))) (pe_slice sl_list (pv 0) (po_some (pe_op op_add (pv 5) pe_int)) po_none))))
  pss_nil)
  (pss_cons (ps_if (pt_cmpR op_eq (pv 7) pe_int (nomark _))
  (pss_one (ps_ret (pe_op op_cat (pe_op op_cat (pe_slice sl_list (pv 0) po_none (po_some (pv 5))) (pe_lst (pa_cons (pe_tup (pa_cons (pe_op op_sub (pe_op op_sub pe_int pe_int) (pe_call G__law_pick (hr.mono (by first | decide | omega)) (by rfl) T.g__law_pick T.F__law_pick.kp T.b__law_pick .nil pass0 (pa_cons (pv 1) (pa_cons (pe_op op_add (pv 2) pe_int) (pa_cons pe_int pa_nil))))) (pa_cons (pe_ix ix_tup (pv 6) pe_int (fun _ _ => rfl)) (pa_cons (pe_ix ix_tup (pv 6) pe_int (fun _ _ => rfl)) pa_nil)))) pa_nil))) (pe_slice sl_list (pv 0) (po_some (pe_op op_add (pv 5) pe_int)) po_none))))
  pss_nil)
  (pss_one (ps_ret (pe_op op_cat (pe_op op_cat (pe_slice sl_list (pv 0) po_none (po_some (pv 5))) (pe_lst (pa_cons (pe_call G__law_moved (hr.mono (by first | decide | omega)) (by rfl) T.g__law_moved T.F__law_moved.kp T.b__law_moved .nil pass0 (pa_cons (pv 6) (pa_cons pe_int (pa_cons (pe_un un_neg pe_int) pa_nil)))) pa_nil))) (pe_slice sl_list (pv 0) (po_some (pe_op op_add (pv 5) pe_int)) po_none)))))))))))))))), ?_⟩
    rw [st__law_changed]
    try dsimp only [cxOf]
    walk_at "g"
    refine Gx.newL (by show 0 ≤ _; omega) fun e H0 E0' => ?_
    have hp0 := Gx.dp_same E0'.same _ _ hp
    have hU0 := E0'.same.seq hU
    have hx0 := Gx.dpAll_same E0'.same _ _ hx
    have hS0 := E0'.same.seq hS
    refine ⟨planD ps, .list [], hp0, .lst (SqL.of E0'.at_) .nil, shaped_plan fun p hp => (pok p hp).2, rfl, _, rfl, ?_⟩
    clear hU hp hx hS
    have s0 := E0'.same
    generalize hw : PyData.eqv (planD ps) (.list []) = w'
    cases w' with
    | true =>
      rw [if_pos rfl]
      walk_at "g"
      refine ⟨b, xs, _, _, rfl, hS0, hl, by omega, ?_⟩
      walk_at "g"
      refine ⟨b, xs, _, _, rfl, hS0, hl, by omega, ?_⟩
      walk_at "g"
      refine Gx.newT (by show 3 ≤ 16777216; decide) fun t H1 E1 => ?_
      walk_at "g"
      refine Gx.newL (by show 1 ≤ 16777216; decide) fun p H2 E2 => ?_
      walk_at "g"
      refine q H2 p [(_, _, [97])] ((s0.trans E1.same).trans E2.same) (.lst (SqL.of E2.at_) (.cons (tup_mk (SqT.of (E2.same _ _ E1.at_))) .nil)) (by show 1 ≤ 21; decide) fun p hp => ?_
      cases List.mem_singleton.mp hp
      exact ⟨by show 1 ≤ 60; decide, fun c hc => by cases List.mem_singleton.mp hc; decide⟩
    | false =>
      rw [if_neg (by decide)]
      have hne : 0 < ps.length := by
        cases ps with
        | nil => exact absurd hw (by decide)
        | cons p ps => exact Nat.succ_pos _
      walk_at "g"
      refine ⟨b, xs, _, _, rfl, hS0, hl, by omega, ?_⟩
      have y0 := pick_0 xs (at_ + 1) (m := us.length) (by omega)
      have y1 := pick_lt xs (at_ + 1) (m := us.length) (by omega)
      generalize pick xs (at_ + 1) us.length = k at y0 y1 ⊢
      walk_at "g"
      obtain ⟨v, hv⟩ : ∃ v, us[k.toNat]? = some v := ⟨us[k.toNat]'(by omega), List.getElem?_eq_getElem _⟩
      obtain ⟨p, t, hpk', rfl, ht⟩ := plan_get hx0 hv
      have hpk := pok p (List.mem_of_getElem? hpk')
      refine Gx.ixL hU0 (Gx.atI_of (k := k.toNat) (by omega) hv) ?_
      walk_at "g"
      refine ⟨b, xs, _, _, rfl, hS0, hl, by omega, ?_⟩
      walk_at "g"
      refine Gx.iteD (fun c0 => ?_) (fun c0 => ?_)
      · walk_at "g"
        refine Gx.slL1 hU0 fun p1 H1 E1 => ?_
        rw [Gx.cutV_A _ (by omega)] at E1
        have s1 := s0.trans E1.same
        have ht1 := E1.same.seqT ht
        walk_at "g"
        refine ⟨t, p, _, _, rfl, ht1, fun H2 u s2 hu => ?_⟩
        walk_at "g"
        refine Gx.newL (by show 1 ≤ 16777216; decide) fun p3 H3 E3 => ?_
        walk_at "g"
        refine Gx.cat1 (E3.same _ _ (s2 _ _ E1.at_)) E3.at_ (by simp only [List.length_take, List.length_cons, List.length_nil]; omega) fun p4 H4 E4 => ?_
        have s4 : Same H0 H4 := ((E1.same.trans s2).trans E3.same).trans E4.same
        walk_at "g"
        refine Gx.slL1 (s4.seq hU0) fun p5 H5 E5 => ?_
        rw [Gx.cutV_B _ (by omega)] at E5
        walk_at "g"
        refine Gx.cat1 (E5.same _ _ E4.at_) E5.at_ (by simp only [List.length_append, List.length_take, List.length_drop, List.length_cons, List.length_nil]; omega) fun p6 H6 E6 => ?_
        have s6 : Same H0 H6 := (s4.trans E5.same).trans E6.same
        walk_at "g"
        refine q H6 p6 _ (s0.trans s6) (fin3 (ms := [(_, _, p.2.2)]) E6.at_ (Gx.dpAll_same s6 _ _ hx0) (.cons (tup_mk (((E3.same.trans E4.same).trans (E5.same.trans E6.same)).seqT hu)) .nil)) (by simp only [List.length_append, List.length_take, List.length_drop, List.length_cons, List.length_nil]; omega) (fin3k pok fun x hx => ?_)
        cases List.mem_singleton.mp hx
        exact hpk
      · skip
        walk_at "g"
        refine Gx.iteD (fun c1 => ?_) (fun c1 => ?_)
        · walk_at "g"
          refine Gx.slL1 hU0 fun p1 H1 E1 => ?_
          rw [Gx.cutV_A _ (by omega)] at E1
          have s1 := s0.trans E1.same
          have ht1 := E1.same.seqT ht
          walk_at "g"
          refine ⟨t, p, _, _, rfl, ht1, fun H2 u s2 hu => ?_⟩
          walk_at "g"
          refine Gx.newL (by show 1 ≤ 16777216; decide) fun p3 H3 E3 => ?_
          walk_at "g"
          refine Gx.cat1 (E3.same _ _ (s2 _ _ E1.at_)) E3.at_ (by simp only [List.length_take, List.length_cons, List.length_nil]; omega) fun p4 H4 E4 => ?_
          have s4 : Same H0 H4 := ((E1.same.trans s2).trans E3.same).trans E4.same
          walk_at "g"
          refine Gx.slL1 (s4.seq hU0) fun p5 H5 E5 => ?_
          rw [Gx.cutV_B _ (by omega)] at E5
          walk_at "g"
          refine Gx.cat1 (E5.same _ _ E4.at_) E5.at_ (by simp only [List.length_append, List.length_take, List.length_drop, List.length_cons, List.length_nil]; omega) fun p6 H6 E6 => ?_
          have s6 : Same H0 H6 := (s4.trans E5.same).trans E6.same
          walk_at "g"
          refine q H6 p6 _ (s0.trans s6) (fin3 (ms := [(_, _, p.2.2)]) E6.at_ (Gx.dpAll_same s6 _ _ hx0) (.cons (tup_mk (((E3.same.trans E4.same).trans (E5.same.trans E6.same)).seqT hu)) .nil)) (by simp only [List.length_append, List.length_take, List.length_drop, List.length_cons, List.length_nil]; omega) (fin3k pok fun x hx => ?_)
          cases List.mem_singleton.mp hx
          exact hpk
        · skip
          walk_at "g"
          refine Gx.iteD (fun c2 => ?_) (fun c2 => ?_)
          · walk_at "g"
            refine Gx.slL1 hU0 fun p1 H1 E1 => ?_
            rw [Gx.cutV_A _ (by omega)] at E1
            have s1 := s0.trans E1.same
            have ht1 := E1.same.seqT ht
            walk_at "g"
            refine ⟨t, p, _, _, rfl, ht1, fun H2 u s2 hu => ?_⟩
            walk_at "g"
            refine Gx.newL (by show 1 ≤ 16777216; decide) fun p3 H3 E3 => ?_
            walk_at "g"
            refine Gx.cat1 (E3.same _ _ (s2 _ _ E1.at_)) E3.at_ (by simp only [List.length_take, List.length_cons, List.length_nil]; omega) fun p4 H4 E4 => ?_
            have s4 : Same H0 H4 := ((E1.same.trans s2).trans E3.same).trans E4.same
            walk_at "g"
            refine Gx.slL1 (s4.seq hU0) fun p5 H5 E5 => ?_
            rw [Gx.cutV_B _ (by omega)] at E5
            walk_at "g"
            refine Gx.cat1 (E5.same _ _ E4.at_) E5.at_ (by simp only [List.length_append, List.length_take, List.length_drop, List.length_cons, List.length_nil]; omega) fun p6 H6 E6 => ?_
            have s6 : Same H0 H6 := (s4.trans E5.same).trans E6.same
            walk_at "g"
            refine q H6 p6 _ (s0.trans s6) (fin3 (ms := [(_, _, p.2.2)]) E6.at_ (Gx.dpAll_same s6 _ _ hx0) (.cons (tup_mk (((E3.same.trans E4.same).trans (E5.same.trans E6.same)).seqT hu)) .nil)) (by simp only [List.length_append, List.length_take, List.length_drop, List.length_cons, List.length_nil]; omega) (fin3k pok fun x hx => ?_)
            cases List.mem_singleton.mp hx
            exact hpk
          · skip
            walk_at "g"
            refine Gx.iteD (fun c3 => ?_) (fun c3 => ?_)
            · walk_at "g"
              refine Gx.slL1 hU0 fun p1 H1 E1 => ?_
              rw [Gx.cutV_A _ (by omega)] at E1
              walk_at "g"
              refine Gx.slL1 (E1.same.seq hU0) fun p2 H2 E2 => ?_
              rw [Gx.cutV_C _ (by omega) (by omega)] at E2
              walk_at "g"
              refine Gx.cat1 (E2.same _ _ E1.at_) E2.at_ (by simp only [List.length_take, List.length_drop]; omega) fun p3 H3 E3 => ?_
              walk_at "g"
              refine Gx.newL (by show 1 ≤ 16777216; decide) fun p4 H4 E4 => ?_
              walk_at "g"
              refine Gx.cat1 (E4.same _ _ E3.at_) E4.at_ (by simp only [List.length_append, List.length_take, List.length_drop, List.length_cons, List.length_nil]; omega) fun p5 H5 E5 => ?_
              have s5 : Same H0 H5 := (((E1.same.trans E2.same).trans E3.same).trans E4.same).trans E5.same
              walk_at "g"
              refine Gx.slL1 (s5.seq hU0) fun p7 H7 E7 => ?_
              rw [Gx.cutV_B _ (by omega)] at E7
              walk_at "g"
              refine Gx.cat1 (E7.same _ _ E5.at_) E7.at_ (by simp only [List.length_append, List.length_take, List.length_drop, List.length_cons, List.length_nil]; omega) fun p6 H6 E6 => ?_
              have s6 : Same H0 H6 := (s5.trans E7.same).trans E6.same
              have e6 := E6.at_
              rw [List.append_assoc (List.take k.toNat us)] at e6
              walk_at "g"
              refine q H6 p6 _ (s0.trans s6) (fin3 (ms := (ps.take (k + 2).toNat).drop (k + 1).toNat ++ [p]) e6 (Gx.dpAll_same s6 _ _ hx0) ?_) (by simp only [List.length_append, List.length_take, List.length_drop, List.length_cons, List.length_nil]; omega) (fin3k pok fun x hx => ?_)
              · rw [List.map_append, List.map_drop, List.map_take]
                exact Gx.dpAll_app (Gx.dpAll_drop _ (Gx.dpAll_take _ (Gx.dpAll_same s6 _ _ hx0))) (.cons (tup_mk (s6.seqT ht)) .nil)
              · rcases List.mem_append.mp hx with hx | hx
                · exact pok x (List.mem_of_mem_take (List.mem_of_mem_drop hx))
                · cases List.mem_singleton.mp hx
                  exact hpk
            · skip
              walk_at "g"
              refine Gx.iteD (fun c4 => ?_) (fun c4 => ?_)
              · walk_at "g"
                refine Gx.slL1 hU0 fun p1 H1 E1 => ?_
                rw [Gx.cutV_A _ (by omega)] at E1
                have s1 := s0.trans E1.same
                have ht1 := E1.same.seqT ht
                walk_at "g"
                refine Gx.newL (by show 2 ≤ 16777216; decide) fun p3 H3 E3 => ?_
                have s2 := Same.refl H1
                walk_at "g"
                refine Gx.cat1 (E3.same _ _ (s2 _ _ E1.at_)) E3.at_ (by simp only [List.length_take, List.length_cons, List.length_nil]; omega) fun p4 H4 E4 => ?_
                have s4 : Same H0 H4 := ((E1.same.trans s2).trans E3.same).trans E4.same
                walk_at "g"
                refine Gx.slL1 (s4.seq hU0) fun p5 H5 E5 => ?_
                rw [Gx.cutV_B _ (by omega)] at E5
                walk_at "g"
                refine Gx.cat1 (E5.same _ _ E4.at_) E5.at_ (by simp only [List.length_append, List.length_take, List.length_drop, List.length_cons, List.length_nil]; omega) fun p6 H6 E6 => ?_
                have s6 : Same H0 H6 := (s4.trans E5.same).trans E6.same
                walk_at "g"
                refine q H6 p6 _ (s0.trans s6) (fin3 (ms := [p, p]) E6.at_ (Gx.dpAll_same s6 _ _ hx0) (.cons (tup_mk (s6.seqT ht)) (.cons (tup_mk (s6.seqT ht)) .nil))) (by simp only [List.length_append, List.length_take, List.length_drop, List.length_cons, List.length_nil]; omega) (fin3k pok fun x hx => ?_)
                rcases List.mem_cons.mp hx with rfl | hx
                · exact hpk
                · cases List.mem_singleton.mp hx
                  exact hpk
              · skip
                walk_at "g"
                refine Gx.iteD (fun c5 => ?_) (fun c5 => ?_)
                · walk_at "g"
                  refine Gx.slL1 hU0 fun p1 H1 E1 => ?_
                  rw [Gx.cutV_A _ (by omega)] at E1
                  have s1 := s0.trans E1.same
                  have ht1 := E1.same.seqT ht
                  have hS1 := E1.same.seq hS0
                  unfold tupV at ht1
                  walk_at "g"
                  refine ⟨b, xs, _, _, rfl, hS1, hl, by omega, ?_⟩
                  walk_at "g"
                  refine Gx.newT (by show 3 ≤ 16777216; decide) fun u H2 E2 => ?_
                  have s2 := E2.same
                  walk_at "g"
                  refine Gx.newL (by show 1 ≤ 16777216; decide) fun p3 H3 E3 => ?_
                  walk_at "g"
                  refine Gx.cat1 (E3.same _ _ (s2 _ _ E1.at_)) E3.at_ (by simp only [List.length_take, List.length_cons, List.length_nil]; omega) fun p4 H4 E4 => ?_
                  have s4 : Same H0 H4 := ((E1.same.trans s2).trans E3.same).trans E4.same
                  walk_at "g"
                  refine Gx.slL1 (s4.seq hU0) fun p5 H5 E5 => ?_
                  rw [Gx.cutV_B _ (by omega)] at E5
                  walk_at "g"
                  refine Gx.cat1 (E5.same _ _ E4.at_) E5.at_ (by simp only [List.length_append, List.length_take, List.length_drop, List.length_cons, List.length_nil]; omega) fun p6 H6 E6 => ?_
                  have s6 : Same H0 H6 := (s4.trans E5.same).trans E6.same
                  walk_at "g"
                  refine q H6 p6 _ (s0.trans s6) (fin3 (ms := [(p.1, size + 1 + pick xs (at_ + 2) 3, p.2.2)]) E6.at_ (Gx.dpAll_same s6 _ _ hx0) (.cons (tup_mk (((E3.same.trans E4.same).trans (E5.same.trans E6.same)).seqT (SqT.of E2.at_))) .nil)) (by simp only [List.length_append, List.length_take, List.length_drop, List.length_cons, List.length_nil]; omega) (fin3k pok fun x hx => ?_)
                  cases List.mem_singleton.mp hx
                  exact hpk
                · skip
                  walk_at "g"
                  refine Gx.iteD (fun c6 => ?_) (fun c6 => ?_)
                  · walk_at "g"
                    refine Gx.slL1 hU0 fun p1 H1 E1 => ?_
                    rw [Gx.cutV_A _ (by omega)] at E1
                    have s1 := s0.trans E1.same
                    have ht1 := E1.same.seqT ht
                    have hS1 := E1.same.seq hS0
                    unfold tupV at ht1
                    walk_at "g"
                    refine ⟨b, xs, _, _, rfl, hS1, hl, by omega, ?_⟩
                    walk_at "g"
                    refine Gx.newT (by show 3 ≤ 16777216; decide) fun u H2 E2 => ?_
                    have s2 := E2.same
                    walk_at "g"
                    refine Gx.newL (by show 1 ≤ 16777216; decide) fun p3 H3 E3 => ?_
                    walk_at "g"
                    refine Gx.cat1 (E3.same _ _ (s2 _ _ E1.at_)) E3.at_ (by simp only [List.length_take, List.length_cons, List.length_nil]; omega) fun p4 H4 E4 => ?_
                    have s4 : Same H0 H4 := ((E1.same.trans s2).trans E3.same).trans E4.same
                    walk_at "g"
                    refine Gx.slL1 (s4.seq hU0) fun p5 H5 E5 => ?_
                    rw [Gx.cutV_B _ (by omega)] at E5
                    walk_at "g"
                    refine Gx.cat1 (E5.same _ _ E4.at_) E5.at_ (by simp only [List.length_append, List.length_take, List.length_drop, List.length_cons, List.length_nil]; omega) fun p6 H6 E6 => ?_
                    have s6 : Same H0 H6 := (s4.trans E5.same).trans E6.same
                    walk_at "g"
                    refine q H6 p6 _ (s0.trans s6) (fin3 (ms := [(0 - 1 - pick xs (at_ + 2) 3, p.2.1, p.2.2)]) E6.at_ (Gx.dpAll_same s6 _ _ hx0) (.cons (tup_mk (((E3.same.trans E4.same).trans (E5.same.trans E6.same)).seqT (SqT.of E2.at_))) .nil)) (by simp only [List.length_append, List.length_take, List.length_drop, List.length_cons, List.length_nil]; omega) (fin3k pok fun x hx => ?_)
                    cases List.mem_singleton.mp hx
                    exact hpk
                  · skip
                    walk_at "g"
                    refine Gx.slL1 hU0 fun p1 H1 E1 => ?_
                    rw [Gx.cutV_A _ (by omega)] at E1
                    have s1 := s0.trans E1.same
                    have ht1 := E1.same.seqT ht
                    walk_at "g"
                    refine ⟨t, p, _, _, rfl, ht1, fun H2 u s2 hu => ?_⟩
                    walk_at "g"
                    refine Gx.newL (by show 1 ≤ 16777216; decide) fun p3 H3 E3 => ?_
                    walk_at "g"
                    refine Gx.cat1 (E3.same _ _ (s2 _ _ E1.at_)) E3.at_ (by simp only [List.length_take, List.length_cons, List.length_nil]; omega) fun p4 H4 E4 => ?_
                    have s4 : Same H0 H4 := ((E1.same.trans s2).trans E3.same).trans E4.same
                    walk_at "g"
                    refine Gx.slL1 (s4.seq hU0) fun p5 H5 E5 => ?_
                    rw [Gx.cutV_B _ (by omega)] at E5
                    walk_at "g"
                    refine Gx.cat1 (E5.same _ _ E4.at_) E5.at_ (by simp only [List.length_append, List.length_take, List.length_drop, List.length_cons, List.length_nil]; omega) fun p6 H6 E6 => ?_
                    have s6 : Same H0 H6 := (s4.trans E5.same).trans E6.same
                    walk_at "g"
                    refine q H6 p6 _ (s0.trans s6) (fin3 (ms := [(_, _, p.2.2)]) E6.at_ (Gx.dpAll_same s6 _ _ hx0) (.cons (tup_mk (((E3.same.trans E4.same).trans (E5.same.trans E6.same)).seqT hu)) .nil)) (by simp only [List.length_append, List.length_take, List.length_drop, List.length_cons, List.length_nil]; omega) (fin3k pok fun x hx => ?_)
                    cases List.mem_singleton.mp hx
                    exact hpk
end
end K45
namespace K45
open PySem PySem.Spec PyProof.Rows L2
local macro_rules | `(tactic| walk_at "con") => `(tactic| first | with_reducible refine Gx.conE K45.ks0 ?_ | with_reducible refine Gx.conE K45.ks1 ?_ | with_reducible refine Gx.conE K45.ks2 ?_ | with_reducible refine Gx.conE K45.ks3 ?_ | with_reducible refine Gx.conE K45.ks4 ?_ | with_reducible refine Gx.conE K45.ks5 ?_ | with_reducible refine Gx.conE K45.ks6 ?_ | with_reducible refine Gx.conE K45.ks7 ?_ | with_reducible refine Gx.conE K45.ks8 ?_ | with_reducible refine Gx.conE K45.ks9 ?_ | with_reducible refine Gx.conE K45.ks10 ?_)
section
variable {P : Program} {w : World} {K : PySem.W.Frag} {mg : Str → Option Value} {base : Heap}
theorem cp_ap {l : List Nat} (hl : Gx.Cp l) : ∀ (ps : List P3) (r : Int), (∀ p ∈ ps, Gx.Cp p.2.2) → Gx.Cp (ap l r ps)
  | [], _, _ => hl.drop _
  | p :: ps, _, h => (((hl.take _).drop _).app (h p List.mem_cons_self)).app (cp_ap hl ps _ fun q hq => h q (List.mem_cons_of_mem _ hq))
theorem cp_bk {l : List Nat} (hl : Gx.Cp l) : ∀ (ps : List P3) (m : Int), ∀ p ∈ bk l m ps, Gx.Cp p.2.2
  | [], _, _, h => by simp [bk] at h
  | p :: ps, m, q, h => by
    rw [bk] at h
    rcases List.mem_cons.mp h with rfl | h
    · exact (hl.take _).drop _
    · exact cp_bk hl ps _ q h
theorem ap_len2 (l : List Nat) : ∀ (ps : List P3) (r : Int), InOrd l r ps → 0 ≤ r → r ≤ l.length → (∀ p ∈ ps, p.2.2.length ≤ 60) → ((ap l r ps).length : Int) + r ≤ l.length + 60 * ps.length
  | [], r, _, h0, h1, _ => by rw [ap, List.length_drop]; simp only [List.length_nil]; omega
  | p :: ps, r, ⟨o1, ⟨f1, f2, f3⟩, o3⟩, h0, h1, h => by
    have i := ap_len2 l ps p.2.1 o3 (by omega) f3 fun q hq => h q (List.mem_cons_of_mem _ hq)
    have hp := h p List.mem_cons_self
    rw [ap]
    simp only [List.length_append, List.length_drop, List.length_take, List.length_cons]
    omega
def sp_lfits (K : PySem.W.Frag) : Sp := fun vs H Q _ => ∃ (a : Addr) (ps : List P3) (l : List Nat), vs = [.ref a, .str (Gx.mkS l)] ∧ Dp K H (.ref a) (planD ps) ∧ ps.length ≤ 21 ∧ (∀ p ∈ ps, p.2.2.length ≤ 60 ∧ Gx.Cp p.2.2) ∧ l.length ≤ 54 ∧ Gx.Cp l ∧ ∀ H', Same H H' → Q (.bl true) H'
theorem G__law_fits (T : Txt K mg) : FnOk P w K mg base CX0 24 T.f__law_fits T.fd__law_fits ["plan", "text"] (sp_lfits K) := by
  have G__law_made := G__law_made (P := P) (w := w) (base := base) T
  have G__law_in_order := G__law_in_order (P := P) (w := w) (base := base) T
  have G__law_refused := G__law_refused (P := P) (w := w) (base := base) T
  have G__law_told := G__law_told (P := P) (w := w) (base := base) T
  have G__law_after := G__law_after (P := P) (w := w) (base := base) T
  have G__law_undone := G__law_undone (P := P) (w := w) (base := base) T
  have G__law_same := G__law_same (P := P) (w := w) (base := base) T
  have G_all_applied := G_all_applied (P := P) (w := w) (base := base) T
  have G_all_back := G_all_back (P := P) (w := w) (base := base) T
  have G_Splice_init := G_Splice_init (P := P) (w := w) (base := base) T
  refine T.F__law_fits.ok sc__law_fits (fun vs H Q E h => ?_) (fun cdv A outer s H vs Q E hr h => ?_)
  · obtain ⟨a, ps, l, rfl, _⟩ := h
    rfl
  · obtain ⟨a, ps, l, rfl, hp, hn, pok, hl, hcp, q⟩ := h
    have POK : POk ps := ⟨by omega, fun p hp => ⟨by have := (pok p hp).1; omega, (pok p hp).2⟩⟩
    have okp := okD_plan (fun p hp => (pok p hp).2) (by omega)
    have dep := dep_plan ps
    have sm : Small ps := ⟨by omega, fun p hp => by have := (pok p hp).1; omega⟩
    refine ⟨_, ((pss_cons (ps_set (i := 2) sc__law_fits.nd rfl (Or.inl rfl) (pe_call G__law_made (hr.mono (by first | decide | omega)) (by rfl) T.g__law_made T.F__law_made.kp T.b__law_made .nil pass0 (pa_cons (pv 0) pa_nil)))
  (pss_cons (ps_if (pt_not (pt_val (pe_call G__law_in_order (hr.mono (by first | decide | omega)) (by rfl) T.g__law_in_order T.F__law_in_order.kp T.b__law_in_order .nil pass0 (pa_cons (pv 0) (pa_cons (pe_callB Gx.cr_lenS (by rfl) T.z_len bt_len (pa_cons (pv 1) pa_nil)) pa_nil)))))
  (pss_cons (ps_if (PW.pt (pw_or (pt_not (pt_val (pe_call G__law_refused (hr.mono (by first | decide | omega)) (by rfl) T.g__law_refused T.F__law_refused.kp T.b__law_refused .nil pass0 (pa_cons (pv 2) (pa_cons (pv 1) (pa_cons pe_bl pa_nil)))))) (pw_or1 (pt_not (pt_val (pe_call G__law_refused (hr.mono (by first | decide | omega)) (by rfl) T.g__law_refused T.F__law_refused.kp T.b__law_refused .nil pass0 (pa_cons (pv 2) (pa_cons (pv 1) (pa_cons pe_bl pa_nil)))))))))
  (pss_one (ps_ret pe_bl))
  pss_nil)
  (pss_one (ps_ret (pe_call G__law_same (hr.mono (by first | decide | omega)) (by rfl) T.g__law_same T.F__law_same.kp T.b__law_same .nil pass0 (pa_cons (pe_call G__law_told (hr.mono (by first | decide | omega)) (by rfl) T.g__law_told T.F__law_told.kp T.b__law_told .nil pass0 (pa_cons (pv 2) pa_nil)) (pa_cons (pv 0) pa_nil))))))
  pss_nil)
  (pss_cons (ps_set (i := 3) sc__law_fits.nd rfl (Or.inl rfl) (pe_call G__law_after (hr.mono (by first | decide | omega)) (by rfl) T.g__law_after T.F__law_after.kp T.b__law_after .nil pass0 (pa_cons (pv 0) (pa_cons (pv 1) pa_nil))))
  (pss_cons (ps_set (i := 4) sc__law_fits.nd rfl (Or.inl rfl) (pe_call G__law_undone (hr.mono (by first | decide | omega)) (by rfl) T.g__law_undone T.F__law_undone.kp T.b__law_undone .nil pass0 (pa_cons (pv 0) (pa_cons (pv 1) pa_nil))))
  (pss_cons (ps_if (pt_not (pt_val (pe_call G__law_same (hr.mono (by first | decide | omega)) (by rfl) T.g__law_same T.F__law_same.kp T.b__law_same .nil pass0 (pa_cons (pe_call G_all_applied (hr.mono (by first | decide | omega)) (by rfl) T.g_all_applied T.F_all_applied.kp T.b_all_applied .nil passL (pa_cons (pv 2) (pa_cons (pv 1) pa_nil))) (pa_cons (pv 3) pa_nil)))))
  (pss_one (ps_ret pe_bl))
  pss_nil)
  (pss_cons (ps_for PassesOwn.never rfl (pi_range1 rfl T.z_range (pa_cons pe_int pa_nil)) (pg_name (i := 5) sc__law_fits.nd rfl (Or.inl rfl))
  (pss_cons (ps_set (i := 6) sc__law_fits.nd rfl (Or.inl rfl) (pe_call G_all_back (hr.mono (by first | decide | omega)) (by rfl) T.g_all_back T.F_all_back.kp T.b_all_back .nil passL (pa_cons (pv 2) (pa_cons (pv 1) pa_nil))))
  (pss_cons (ps_if (pt_not (pt_val (pe_call G__law_same (hr.mono (by first | decide | omega)) (by rfl) T.g__law_same T.F__law_same.kp T.b__law_same .nil pass0 (pa_cons (pe_call G__law_told (hr.mono (by first | decide | omega)) (by rfl) T.g__law_told T.F__law_told.kp T.b__law_told .nil pass0 (pa_cons (pv 6) pa_nil)) (pa_cons (pv 4) pa_nil)))))
  (pss_one (ps_ret pe_bl))
  pss_nil)
  (pss_cons (ps_if (PW.pt (pw_or (pt_not (pt_val (pe_call G__law_same (hr.mono (by first | decide | omega)) (by rfl) T.g__law_same T.F__law_same.kp T.b__law_same .nil pass0 (pa_cons (pe_call G_all_applied (hr.mono (by first | decide | omega)) (by rfl) T.g_all_applied T.F_all_applied.kp T.b_all_applied .nil passL (pa_cons (pv 6) (pa_cons (pv 3) pa_nil))) (pa_cons (pv 1) pa_nil))))) (pw_or1 (pt_not (pt_val (pe_call G__law_same (hr.mono (by first | decide | omega)) (by rfl) T.g__law_same T.F__law_same.kp T.b__law_same .nil pass0 (pa_cons (pe_call G__law_told (hr.mono (by first | decide | omega)) (by rfl) T.g__law_told T.F__law_told.kp T.b__law_told .nil pass0 (pa_cons (pe_call G_all_back (hr.mono (by first | decide | omega)) (by rfl) T.g_all_back T.F_all_back.kp T.b_all_back .nil passL (pa_cons (pv 6) (pa_cons (pv 3) pa_nil))) pa_nil)) (pa_cons (pv 0) pa_nil))))))))
  (pss_one (ps_ret pe_bl))
  pss_nil)
  (pss_one (ps_expr (pe_bm PySem.F.plainAttrs_list PySem.F.slot_list_append PySem.F.type_list_append mt_append (pv 6) (pa_cons (pe_make T.M_Splice G_Splice_init (hr.mono (by first | decide | omega)) (by rfl) T.g_Splice T.b_Splice_init .nil pass0 (pa_cons pe_int (pa_cons pe_int (pa_cons pe_str pa_nil)))) pa_nil))))))))
  (pss_one (ps_ret (pe_and (pe_call G__law_same (hr.mono (by first | decide | omega)) (by rfl) T.g__law_same T.F__law_same.kp T.b__law_same .nil pass0 (pa_cons (pe_call G__law_told (hr.mono (by first | decide | omega)) (by rfl) T.g__law_told T.F__law_told.kp T.b__law_told .nil pass0 (pa_cons (pv 2) pa_nil)) (pa_cons (pv 0) pa_nil))) (pe_one (pe_call G__law_same (hr.mono (by first | decide | omega)) (by rfl) T.g__law_same T.F__law_same.kp T.b__law_same .nil pass0 (pa_cons (pe_call G_all_applied (hr.mono (by first | decide | omega)) (by rfl) T.g_all_applied T.F_all_applied.kp T.b_all_applied .nil passL (pa_cons (pv 2) (pa_cons (pv 1) pa_nil))) (pa_cons (pv 3) pa_nil)))))))))))))), ?_⟩
    rw [st__law_fits]
    try dsimp only [cxOf]
    walk_at "g"
    refine ⟨a, ps, rfl, hp, POK, fun H1 sq rs s1 e1 d1 => ?_⟩
    have hp1 := Gx.dp_same s1 _ _ hp
    have hS1 := SqL.of (K := K) e1
    walk_at "g"
    refine ⟨a, ps, l, rfl, hp1, ?_⟩
    walk_at "g"
    refine Gx.iteDn (fun io => ?_) (fun io => ?_)
    · walk_at "g"
      refine ⟨sq, rs, ps, l, false, rfl, hS1, d1, by omega, sm, io, fun H2 s2 => ?_⟩
      walk_at "g"
      refine ⟨sq, rs, ps, l, true, rfl, s2.seq hS1, d1.same s2, by omega, sm, io, fun H3 s3 => ?_⟩
      have s3' := s2.trans s3
      walk_at "g"
      refine ⟨sq, rs, ps, rfl, s3'.seq hS1, d1.same s3', by omega, fun H4 u s4 du => ?_⟩
      walk_at "g"
      refine ⟨_, _, planD ps, rfl, du, Gx.dp_same (s3'.trans s4) _ _ hp1, okp, by omega, fun H5 s5 => ?_⟩
      exact q H5 (s1.trans ((s3'.trans s4).trans s5))
    · walk_at "g"
      refine ⟨a, ps, l, rfl, hp1, io, POK, by omega, ?_⟩
      walk_at "g"
      refine ⟨a, ps, l, rfl, hp1, io, POK, by omega, fun H2 uq s2 hu => ?_⟩
      have len := ap_len2 l ps 0 io (by omega) (by omega) fun p hp => (pok p hp).1
      have cpa := cp_ap hcp ps 0 fun p hp => (pok p hp).2
      obtain ⟨un1, un2, un3⟩ := undo_top io
      have bl := bk_len l ps 0
      have bs := bk_small l ps 0
      have bc := cp_bk hcp ps 0
      have okb := okD_plan bc (by omega)
      have deb := dep_plan (bk l 0 ps)
      have smb : Small (bk l 0 ps) := ⟨by omega, fun p hp => by have := bs p hp; omega⟩
      walk_at "g"
      refine ⟨sq, rs, ps, l, rfl, s2.seq hS1, d1.same s2, by omega, sm, fun _ => ?_, fun no => (no io).elim⟩
      walk_at "g"
      refine ⟨_, _, .str (Gx.mkS (ap l 0 ps)), rfl, .str _, .str _, cpa.okD, by show 0 ≤ 20; omega, fun H3 s3 => ?_⟩
      walk_at "g"
      refine ⟨_, rfl, by omega, by omega, for_range (fun i σ H4 => ∃ (y z : Option V), Same H2 H4 ∧ σ = [some (.ref a), some (.str (Gx.mkS l)), some (.ref sq), some (.str (Gx.mkS (ap l 0 ps))), some (.ref uq), y, z])
        ⟨none, none, s3, rfl⟩ ?_ ?_⟩
      · rintro i σ H4 hi ⟨y, z, s4, rfl⟩
        have s14 := s2.trans s4
        walk_at "g"
        refine ⟨sq, rs, ps, l, rfl, s14.seq hS1, d1.same s14, by omega, sm, fun _ H5 bq us s5 nb eb db => ?_, fun no => (no io).elim⟩
        have hB5 := SqL.of (K := K) eb
        walk_at "g"
        refine ⟨bq, us, bk l 0 ps, rfl, hB5, db, by omega, fun H6 u s6 du => ?_⟩
        walk_at "g"
        refine ⟨_, _, planD (bk l 0 ps), rfl, du, Gx.dp_same ((s4.trans s5).trans s6) _ _ hu, okb, by omega, fun H7 s7 => ?_⟩
        have s57 := s6.trans s7
        walk_at "g"
        refine ⟨bq, us, bk l 0 ps, ap l 0 ps, rfl, s57.seq hB5, db.same s57, by omega, smb, fun _ => ?_, fun no => (no un1).elim⟩
        rw [un2]
        walk_at "g"
        refine ⟨_, _, .str (Gx.mkS l), rfl, .str _, .str _, hcp.okD, by show 0 ≤ 20; omega, fun H8 s8 => ?_⟩
        have s58 := s57.trans s8
        walk_at "g"
        refine ⟨bq, us, bk l 0 ps, ap l 0 ps, rfl, s58.seq hB5, db.same s58, by omega, smb, fun _ H9 b2 us2 s9 _ eb2 db2 => ?_, fun no => (no un1).elim⟩
        rw [un3] at db2
        walk_at "g"
        refine ⟨b2, us2, ps, rfl, SqL.of eb2, db2, by omega, fun H10 u2 s10 du2 => ?_⟩
        walk_at "g"
        have s510 := (s58.trans s9).trans s10
        refine ⟨_, _, planD ps, rfl, du2, Gx.dp_same ((s14.trans s5).trans s510) _ _ hp1, okp, by omega, fun H11 s11 => ?_⟩
        have s511 := s510.trans s11
        have eb11 := s511 _ _ eb
        walk_at "g"
        intro x dx nx ndx ne
        refine ⟨x, dx, _, _, _, rfl, upd_same, fun H12 e1 e2 => ⟨rfl, ?_⟩⟩
        have s12 := Gx.made_same nx ndx e2
        have eb12 := s12 _ _ eb11
        have hul : us.length = ps.length := by rw [db.len, bl]
        walk_at "g"
        exact ⟨_, _, s4.trans (Gx.Same.put ((s5.trans s511).trans s12) nb), rfl⟩
      · rintro σ H4 ⟨y, z, s4, rfl⟩
        have s14 := s2.trans s4
        walk_at "g"
        refine ⟨sq, rs, ps, rfl, s14.seq hS1, d1.same s14, by omega, fun H5 u s5 du => ?_⟩
        walk_at "g"
        refine ⟨_, _, planD ps, rfl, du, Gx.dp_same (s14.trans s5) _ _ hp1, okp, by omega, fun H6 s6 => ?_⟩
        have s16 := (s14.trans s5).trans s6
        walk_at "g"
        refine ⟨sq, rs, ps, l, rfl, s16.seq hS1, d1.same s16, by omega, sm, fun _ => ?_, fun no => (no io).elim⟩
        walk_at "g"
        refine ⟨_, _, .str (Gx.mkS (ap l 0 ps)), rfl, .str _, .str _, cpa.okD, by show 0 ≤ 20; omega, fun H7 s7 => ?_⟩
        exact q H7 ((s1.trans s16).trans s7)
end
end K45
namespace K45
open PySem PySem.Spec PyProof.Rows L2
local macro_rules | `(tactic| walk_at "con") => `(tactic| first | with_reducible refine Gx.conE K45.ks0 ?_ | with_reducible refine Gx.conE K45.ks1 ?_ | with_reducible refine Gx.conE K45.ks2 ?_ | with_reducible refine Gx.conE K45.ks3 ?_ | with_reducible refine Gx.conE K45.ks4 ?_ | with_reducible refine Gx.conE K45.ks5 ?_ | with_reducible refine Gx.conE K45.ks6 ?_ | with_reducible refine Gx.conE K45.ks7 ?_ | with_reducible refine Gx.conE K45.ks8 ?_ | with_reducible refine Gx.conE K45.ks9 ?_ | with_reducible refine Gx.conE K45.ks10 ?_)
section
variable {P : Program} {w : World} {K : PySem.W.Frag} {mg : Str → Option Value} {base : Heap}
def spLaw (K : PySem.W.Frag) : Sp := fun vs H Q _ => ∃ (a : Addr) (ns : List Int), vs = [.ref a] ∧ SqL K H a (ns.map V.int) ∧ ns.length ≤ 63 ∧ ∀ H', Q (.bl true) H'
theorem ok_law (T : Txt K mg) : FnOk P w K mg base CX0 25 T.f_law T.fd_law ["script"] (spLaw K) := by
  have G__law_stream := G__law_stream (P := P) (w := w) (base := base) T
  have G__law_pick := G__law_pick (P := P) (w := w) (base := base) T
  have G__law_text := G__law_text (P := P) (w := w) (base := base) T
  have G__law_plan := G__law_plan (P := P) (w := w) (base := base) T
  have G__law_fits := G__law_fits (P := P) (w := w) (base := base) T
  have G__law_changed := G__law_changed (P := P) (w := w) (base := base) T
  refine T.F_law.ok sc_law (fun vs H Q E h => ?_) (fun cdv A outer s H vs Q E hr h => ?_)
  · obtain ⟨a, ns, rfl, _⟩ := h
    rfl
  · obtain ⟨a, ns, rfl, hS, hlen, q⟩ := h
    refine ⟨_, ((pss_cons (ps_set (i := 1) sc_law.nd rfl (Or.inl rfl) (pe_call G__law_stream (hr.mono (by first | decide | omega)) (by rfl) T.g__law_stream T.F__law_stream.kp T.b__law_stream .nil pass0 (pa_cons (pv 0) (pa_cons pe_int pa_nil))))
  (pss_cons (ps_set (i := 2) sc_law.nd rfl (Or.inl rfl) (pe_call G__law_pick (hr.mono (by first | decide | omega)) (by rfl) T.g__law_pick T.F__law_pick.kp T.b__law_pick .nil pass0 (pa_cons (pv 1) (pa_cons pe_int (pa_cons pe_int pa_nil)))))
  (C8.pss_cut (ps_if (pt_cmpR op_eq (pe_call G__law_pick (hr.mono (by first | decide | omega)) (by rfl) T.g__law_pick T.F__law_pick.kp T.b__law_pick .nil pass0 (pa_cons (pv 1) (pa_cons pe_int (pa_cons pe_int pa_nil)))) pe_int (nomark _))
  (pss_one (ps_set (i := 2) sc_law.nd rfl (Or.inl rfl) (pe_call G__law_pick (hr.mono (by first | decide | omega)) (by rfl) T.g__law_pick T.F__law_pick.kp T.b__law_pick .nil pass0 (pa_cons (pv 1) (pa_cons pe_int (pa_cons pe_int pa_nil))))))
  pss_nil)
  (pss_cons (ps_set (i := 3) sc_law.nd rfl (Or.inl rfl) (pe_call G__law_text (hr.mono (by first | decide | omega)) (by rfl) T.g__law_text T.F__law_text.kp T.b__law_text .nil pass0 (pa_cons (pv 1) (pa_cons pe_int (pa_cons (pv 2) pa_nil)))))
  (pss_cons (ps_set (i := 4) sc_law.nd rfl (Or.inl rfl) (pe_call G__law_plan (hr.mono (by first | decide | omega)) (by rfl) T.g__law_plan T.F__law_plan.kp T.b__law_plan .nil pass0 (pa_cons (pv 1) (pa_cons (pv 3) pa_nil))))
  (pss_cons (ps_if (PW.pt (pw_or (pt_not (pt_val (pe_call G__law_fits (hr.mono (by first | decide | omega)) (by rfl) T.g__law_fits T.F__law_fits.kp T.b__law_fits .nil pass0 (pa_cons (pe_lst pa_nil) (pa_cons (pv 3) pa_nil))))) (pw_or1 (pt_not (pt_val (pe_call G__law_fits (hr.mono (by first | decide | omega)) (by rfl) T.g__law_fits T.F__law_fits.kp T.b__law_fits .nil pass0 (pa_cons (pv 4) (pa_cons (pv 3) pa_nil))))))))
  (pss_one (ps_ret pe_bl))
  pss_nil)
  (pss_cons (ps_for PassesOwn.never rfl (pi_range1 rfl T.z_range (pa_cons pe_int pa_nil)) (pg_name (i := 5) sc_law.nd rfl (Or.inl rfl))
  (pss_one (ps_if (pt_not (pt_val (pe_call G__law_fits (hr.mono (by first | decide | omega)) (by rfl) T.g__law_fits T.F__law_fits.kp T.b__law_fits .nil pass0 (pa_cons (pe_call G__law_changed (hr.mono (by first | decide | omega)) (by rfl) T.g__law_changed T.F__law_changed.kp T.b__law_changed .nil pass0 (pa_cons (pv 4) (pa_cons (pv 1) (pa_cons (pe_op op_add pe_int (pe_op op_mul pe_int (pv 5))) (pa_cons (pv 2) pa_nil))))) (pa_cons (pv 3) pa_nil)))))
  (pss_one (ps_ret pe_bl))
  pss_nil)))
  (pss_one (ps_ret pe_bl)))))))))), ?_⟩
    rw [st_law]
    try dsimp only [cxOf]
    walk_at "g"
    refine ⟨a, ns, _, rfl, hS, hlen, by omega, by omega, fun H1 p xs s1 np e1 hx dx => ?_⟩
    clear hS s1 np
    have hX : SqL K H1 p (xs.map V.int) := SqL.of e1
    have hl : 0 < xs.length := by omega
    walk_at "g"
    refine ⟨p, xs, _, _, rfl, hX, hl, by omega, ?_⟩
    have z0 := pick_0 xs 0 (m := 13) (by omega)
    have z1 := pick_lt xs 0 (m := 13) (by omega)
    walk_at "g"
    refine ⟨fun σ H2 => ∃ size : Int, H2 = H1 ∧ 0 ≤ size ∧ size ≤ 54 ∧ σ = [some (.ref a), some (.ref p), some (.int size), none, none, none], ?_, ?_⟩
    · walk_at "g"
      refine ⟨p, xs, _, _, rfl, hX, hl, by omega, ?_⟩
      walk_at "g"
      refine Gx.iteD (fun h => ?_) (fun h => ?_)
      · walk_at "g"
        refine ⟨p, xs, _, _, rfl, hX, hl, by omega, ?_⟩
        have y0 := pick_0 xs 3 (m := 55) (by omega)
        have y1 := pick_lt xs 3 (m := 55) (by omega)
        walk_at "g"
        exact ⟨_, rfl, by omega, by omega, rfl⟩
      · walk_at "g"
        exact ⟨_, rfl, by omega, by omega, rfl⟩
    · rintro σ H2 ⟨size, rfl, b0, b1, rfl⟩
      walk_at "g"
      refine ⟨p, xs, _, _, rfl, hX, hl, by omega, by omega, fun H3 s3 => ?_⟩
      have hX3 : SqL K H3 p (xs.map V.int) := s3.seq hX
      have tl := txtL_len xs 10 size.toNat
      have tc := txtL_cp xs 10 size.toNat
      generalize txtL xs 10 size.toNat = text at tl tc ⊢
      walk_at "g"
      refine ⟨p, xs, text, rfl, hX3, hl, by omega, tc, fun H4 pq ps s4 dp lp pok => ?_⟩
      have hX4 := s4.seq hX3
      walk_at "g"
      refine Gx.newL (by show 0 ≤ _; omega) fun e H5 E5 => ?_
      walk_at "g"
      refine ⟨e, [], text, rfl, .lst (SqL.of E5.at_) .nil, by show 0 ≤ 21; omega, fun p hp => (nomatch hp), by omega, tc, fun H6 s6 => ?_⟩
      have s46 := E5.same.trans s6
      walk_at "g"
      refine ⟨pq, ps, text, rfl, Gx.dp_same s46 _ _ dp, by omega, pok, by omega, tc, fun H7 s7 => ?_⟩
      have s47 := s46.trans s7
      walk_at "g"
      refine ⟨_, rfl, by omega, by omega, for_range (fun i σ H8 => ∃ (y : Option V), Same H4 H8 ∧ σ = [some (.ref a), some (.ref p), some (.int size), some (.str (Gx.mkS text)), some (.ref pq), y])
        ⟨none, s47, rfl⟩ ?_ ?_⟩
      · rintro i σ H8 hi ⟨y, s8, rfl⟩
        walk_at "g"
        refine ⟨pq, p, ps, xs, _, _, rfl, Gx.dp_same s8 _ _ dp, by omega, pok, s8.seq hX4, hl, b0, fun H9 cq ps' s9 dp' lp' pok' => ?_⟩
        walk_at "g"
        refine ⟨cq, ps', text, rfl, dp', lp', pok', by omega, tc, fun H10 s10 => ?_⟩
        walk_at "g"
        exact ⟨_, (s8.trans s9).trans s10, rfl⟩
      · rintro σ H8 ⟨y, s8, rfl⟩
        walk_at "g"
        exact q H8
end
end K45
open PySem PySem.W PyProof.Rows
set_option maxHeartbeats 0 in
theorem PySem.Challenge.cw_textsputback_k45_several_splices_holds : PySem.Challenge.rw_textsputback_k45_several_splices.Holds := by
  w_on; o_law; k_head; (case hw => w_witness2)
  k_fill
  refine L2.walk_of (l := PySem.Challenge.rw_textsputback_k45_several_splices) (n := 63) (k := 25) (x := "script") (CX := fun _ => L2.CX0) (sp := fun w => K45.spLaw _) rfl (by decide) rfl ⟨rfl, by decide, by decide⟩ (fun w h Y => PySem.W.kIn_of Y) ?F (fun _ _ a ns hl _ hS => ⟨a, ns, rfl, hS, hl, fun _ => rfl⟩) (fun _ _ _ _ _ h => h)
  case F =>
    intro w mg fa h KX G hmg
    obtain ⟨T, e⟩ : ∃ T : K45.Txt _ mg, T.f_law = fa := by
      refine' K45.txt_mk KX G ?ga_LensError ?k_LensError ?x_LensError ?bP_LensError ?tP_LensError ?iP_LensError ?ga_BadSplice ?k_BadSplice ?x_BadSplice ?bP_BadSplice ?tP_BadSplice ?iP_BadSplice ?ga_Splice ?k_Splice ?pg_Splice ?hd_Splice ?po_Splice ?sa_Splice ?mk_Splice ?n_Splice_start ?n_Splice_end ?n_Splice_new ?ha_Splice ?hm_Splice ?hn_ ?htk_ ?ga_Splice_init ?i_Splice_init ?l_Splice_init ?cc_Splice_init ?k_Splice_init ?pa_Splice_longer ?pb_Splice_longer ?pc_Splice_longer ?pd_Splice_longer ?l_Splice_longer ?cc_Splice_longer ?k_Splice_longer ?ga_Splice_eq ?i_Splice_eq ?l_Splice_eq ?cc_Splice_eq ?k_Splice_eq ?ga_Splice_fits ?i_Splice_fits ?l_Splice_fits ?cc_Splice_fits ?k_Splice_fits ?ga_Splice_call ?i_Splice_call ?l_Splice_call ?cc_Splice_call ?k_Splice_call ?ga_Splice_back ?i_Splice_back ?l_Splice_back ?cc_Splice_back ?k_Splice_back ?ga_all_applied ?l_all_applied ?cc_all_applied ?k_all_applied ?ga_all_back ?l_all_back ?cc_all_back ?k_all_back ?ga__law_mix ?l__law_mix ?cc__law_mix ?k__law_mix ?ga__law_stream ?l__law_stream ?cc__law_stream ?k__law_stream ?ga__law_pick ?l__law_pick ?cc__law_pick ?k__law_pick ?ga__law_wide ?l__law_wide ?cc__law_wide ?k__law_wide ?ga__law_kind ?l__law_kind ?cc__law_kind ?k__law_kind ?ga__law_same ?l__law_same ?cc__law_same ?k__law_same ?ga__law_text ?l__law_text ?cc__law_text ?k__law_text ?ga__law_plan ?l__law_plan ?cc__law_plan ?k__law_plan ?ga__law_in_order ?l__law_in_order ?cc__law_in_order ?k__law_in_order ?ga__law_after ?l__law_after ?cc__law_after ?k__law_after ?ga__law_undone ?l__law_undone ?cc__law_undone ?k__law_undone ?ga__law_moved ?l__law_moved ?cc__law_moved ?k__law_moved ?ga__law_changed ?l__law_changed ?cc__law_changed ?k__law_changed ?ga__law_made ?l__law_made ?cc__law_made ?k__law_made ?ga__law_told ?l__law_told ?cc__law_told ?k__law_told ?ga__law_refused ?l__law_refused ?cc__law_refused ?k__law_refused ?ga__law_fits ?l__law_fits ?cc__law_fits ?k__law_fits ?ga_law ?l_law ?cc_law ?k_law ?zz_ValueError ?zz_abs ?zz_bool ?zz_int ?zz_isinstance ?zz_len ?zz_list ?zz_min ?zz_range ?zz_sorted ?zz_str ?zz_tuple ?ks_str ?ks_tup ?ss_str ?ss_tup ?fi_Splice ?ecg ?eck ?ecd ?eca ?ecm ?em_bl ?kv_bs hmg
      (case ga_LensError => first | k_is | rfl | decide +kernel)
      (case k_LensError => first | k_is | rfl | decide +kernel)
      (case x_LensError => k_exc)
      (case bP_LensError => first | k_is | rfl | decide +kernel)
      (case tP_LensError => first | k_is | rfl | decide +kernel)
      (case iP_LensError => first | k_is | rfl | decide +kernel)
      (case ga_BadSplice => first | k_is | rfl | decide +kernel)
      (case k_BadSplice => first | k_is | rfl | decide +kernel)
      (case x_BadSplice => k_exc)
      (case bP_BadSplice => first | k_is | rfl | decide +kernel)
      (case tP_BadSplice => first | k_is | rfl | decide +kernel)
      (case iP_BadSplice => first | k_is | rfl | decide +kernel)
      (case ga_Splice => first | k_is | rfl | decide +kernel)
      (case k_Splice => first | k_is | rfl | decide +kernel)
      (case pg_Splice => first | k_is | rfl | decide +kernel)
      (case hd_Splice => first | k_is | rfl | decide +kernel)
      (case po_Splice => first | k_is | rfl | decide +kernel)
      (case sa_Splice => first | k_is | rfl | decide +kernel)
      (case mk_Splice => first | k_is | rfl | decide +kernel)
      (case n_Splice_start => first | k_is | rfl | decide +kernel)
      (case n_Splice_end => first | k_is | rfl | decide +kernel)
      (case n_Splice_new => first | k_is | rfl | decide +kernel)
      (case ha_Splice => first | k_is | rfl | decide +kernel)
      (case hm_Splice => first | k_is | rfl | decide +kernel)
      (case hn_ => first | k_is | rfl | decide +kernel)
      (case htk_ => first | k_is | rfl | decide +kernel)
      (case ga_Splice_init => first | k_is | rfl | decide +kernel)
      (case i_Splice_init => first | k_is | rfl | decide +kernel)
      (case l_Splice_init => first | k_is | rfl | decide +kernel)
      (case cc_Splice_init => first | k_is | rfl | decide +kernel)
      (case k_Splice_init => first | k_is | rfl | decide +kernel)
      (case pa_Splice_longer => first | k_is | rfl | decide +kernel)
      (case pb_Splice_longer => first | k_is | rfl | decide +kernel)
      (case pc_Splice_longer => first | k_is | rfl | decide +kernel)
      (case pd_Splice_longer => first | k_is | rfl | decide +kernel)
      (case l_Splice_longer => first | k_is | rfl | decide +kernel)
      (case cc_Splice_longer => first | k_is | rfl | decide +kernel)
      (case k_Splice_longer => first | k_is | rfl | decide +kernel)
      (case ga_Splice_eq => first | k_is | rfl | decide +kernel)
      (case i_Splice_eq => first | k_is | rfl | decide +kernel)
      (case l_Splice_eq => first | k_is | rfl | decide +kernel)
      (case cc_Splice_eq => first | k_is | rfl | decide +kernel)
      (case k_Splice_eq => first | k_is | rfl | decide +kernel)
      (case ga_Splice_fits => first | k_is | rfl | decide +kernel)
      (case i_Splice_fits => first | k_is | rfl | decide +kernel)
      (case l_Splice_fits => first | k_is | rfl | decide +kernel)
      (case cc_Splice_fits => first | k_is | rfl | decide +kernel)
      (case k_Splice_fits => first | k_is | rfl | decide +kernel)
      (case ga_Splice_call => first | k_is | rfl | decide +kernel)
      (case i_Splice_call => first | k_is | rfl | decide +kernel)
      (case l_Splice_call => first | k_is | rfl | decide +kernel)
      (case cc_Splice_call => first | k_is | rfl | decide +kernel)
      (case k_Splice_call => first | k_is | rfl | decide +kernel)
      (case ga_Splice_back => first | k_is | rfl | decide +kernel)
      (case i_Splice_back => first | k_is | rfl | decide +kernel)
      (case l_Splice_back => first | k_is | rfl | decide +kernel)
      (case cc_Splice_back => first | k_is | rfl | decide +kernel)
      (case k_Splice_back => first | k_is | rfl | decide +kernel)
      (case ga_all_applied => first | k_is | rfl | decide +kernel)
      (case l_all_applied => first | k_is | rfl | decide +kernel)
      (case cc_all_applied => first | k_is | rfl | decide +kernel)
      (case k_all_applied => first | k_is | rfl | decide +kernel)
      (case ga_all_back => first | k_is | rfl | decide +kernel)
      (case l_all_back => first | k_is | rfl | decide +kernel)
      (case cc_all_back => first | k_is | rfl | decide +kernel)
      (case k_all_back => first | k_is | rfl | decide +kernel)
      (case ga__law_mix => first | k_is | rfl | decide +kernel)
      (case l__law_mix => first | k_is | rfl | decide +kernel)
      (case cc__law_mix => first | k_is | rfl | decide +kernel)
      (case k__law_mix => first | k_is | rfl | decide +kernel)
      (case ga__law_stream => first | k_is | rfl | decide +kernel)
      (case l__law_stream => first | k_is | rfl | decide +kernel)
      (case cc__law_stream => first | k_is | rfl | decide +kernel)
      (case k__law_stream => first | k_is | rfl | decide +kernel)
      (case ga__law_pick => first | k_is | rfl | decide +kernel)
      (case l__law_pick => first | k_is | rfl | decide +kernel)
      (case cc__law_pick => first | k_is | rfl | decide +kernel)
      (case k__law_pick => first | k_is | rfl | decide +kernel)
      (case ga__law_wide => first | k_is | rfl | decide +kernel)
      (case l__law_wide => first | k_is | rfl | decide +kernel)
      (case cc__law_wide => first | k_is | rfl | decide +kernel)
      (case k__law_wide => first | k_is | rfl | decide +kernel)
      (case ga__law_kind => first | k_is | rfl | decide +kernel)
      (case l__law_kind => first | k_is | rfl | decide +kernel)
      (case cc__law_kind => first | k_is | rfl | decide +kernel)
      (case k__law_kind => first | k_is | rfl | decide +kernel)
      (case ga__law_same => first | k_is | rfl | decide +kernel)
      (case l__law_same => first | k_is | rfl | decide +kernel)
      (case cc__law_same => first | k_is | rfl | decide +kernel)
      (case k__law_same => first | k_is | rfl | decide +kernel)
      (case ga__law_text => first | k_is | rfl | decide +kernel)
      (case l__law_text => first | k_is | rfl | decide +kernel)
      (case cc__law_text => first | k_is | rfl | decide +kernel)
      (case k__law_text => first | k_is | rfl | decide +kernel)
      (case ga__law_plan => first | k_is | rfl | decide +kernel)
      (case l__law_plan => first | k_is | rfl | decide +kernel)
      (case cc__law_plan => first | k_is | rfl | decide +kernel)
      (case k__law_plan => first | k_is | rfl | decide +kernel)
      (case ga__law_in_order => first | k_is | rfl | decide +kernel)
      (case l__law_in_order => first | k_is | rfl | decide +kernel)
      (case cc__law_in_order => first | k_is | rfl | decide +kernel)
      (case k__law_in_order => first | k_is | rfl | decide +kernel)
      (case ga__law_after => first | k_is | rfl | decide +kernel)
      (case l__law_after => first | k_is | rfl | decide +kernel)
      (case cc__law_after => first | k_is | rfl | decide +kernel)
      (case k__law_after => first | k_is | rfl | decide +kernel)
      (case ga__law_undone => first | k_is | rfl | decide +kernel)
      (case l__law_undone => first | k_is | rfl | decide +kernel)
      (case cc__law_undone => first | k_is | rfl | decide +kernel)
      (case k__law_undone => first | k_is | rfl | decide +kernel)
      (case ga__law_moved => first | k_is | rfl | decide +kernel)
      (case l__law_moved => first | k_is | rfl | decide +kernel)
      (case cc__law_moved => first | k_is | rfl | decide +kernel)
      (case k__law_moved => first | k_is | rfl | decide +kernel)
      (case ga__law_changed => first | k_is | rfl | decide +kernel)
      (case l__law_changed => first | k_is | rfl | decide +kernel)
      (case cc__law_changed => first | k_is | rfl | decide +kernel)
      (case k__law_changed => first | k_is | rfl | decide +kernel)
      (case ga__law_made => first | k_is | rfl | decide +kernel)
      (case l__law_made => first | k_is | rfl | decide +kernel)
      (case cc__law_made => first | k_is | rfl | decide +kernel)
      (case k__law_made => first | k_is | rfl | decide +kernel)
      (case ga__law_told => first | k_is | rfl | decide +kernel)
      (case l__law_told => first | k_is | rfl | decide +kernel)
      (case cc__law_told => first | k_is | rfl | decide +kernel)
      (case k__law_told => first | k_is | rfl | decide +kernel)
      (case ga__law_refused => first | k_is | rfl | decide +kernel)
      (case l__law_refused => first | k_is | rfl | decide +kernel)
      (case cc__law_refused => first | k_is | rfl | decide +kernel)
      (case k__law_refused => first | k_is | rfl | decide +kernel)
      (case ga__law_fits => first | k_is | rfl | decide +kernel)
      (case l__law_fits => first | k_is | rfl | decide +kernel)
      (case cc__law_fits => first | k_is | rfl | decide +kernel)
      (case k__law_fits => first | k_is | rfl | decide +kernel)
      (case ga_law => first | k_is | rfl | decide +kernel)
      (case l_law => first | k_is | rfl | decide +kernel)
      (case cc_law => first | k_is | rfl | decide +kernel)
      (case k_law => first | k_is | rfl | decide +kernel)
      (case zz_ValueError => first | k_is | rfl | decide +kernel)
      (case zz_abs => first | k_is | rfl | decide +kernel)
      (case zz_bool => first | k_is | rfl | decide +kernel)
      (case zz_int => first | k_is | rfl | decide +kernel)
      (case zz_isinstance => first | k_is | rfl | decide +kernel)
      (case zz_len => first | k_is | rfl | decide +kernel)
      (case zz_list => first | k_is | rfl | decide +kernel)
      (case zz_min => first | k_is | rfl | decide +kernel)
      (case zz_range => first | k_is | rfl | decide +kernel)
      (case zz_sorted => first | k_is | rfl | decide +kernel)
      (case zz_str => first | k_is | rfl | decide +kernel)
      (case zz_tuple => first | k_is | rfl | decide +kernel)
      (case ks_str => first | k_is | rfl | decide +kernel)
      (case ks_tup => first | k_is | rfl | decide +kernel)
      (case ss_str => first | k_is | rfl | decide +kernel)
      (case ss_tup => first | k_is | rfl | decide +kernel)
      (case fi_Splice => first | k_is | rfl | decide +kernel)
      (case ecg => first | k_is | rfl | decide +kernel)
      (case eck => first | k_is | rfl | decide +kernel)
      (case ecd => first | k_is | rfl | decide +kernel)
      (case eca => first | k_is | rfl | decide +kernel)
      (case ecm => first | k_is | rfl | decide +kernel)
      (case em_bl => first | k_is | rfl | decide +kernel)
      (case kv_bs => first | k_is | rfl | decide +kernel)
    subst e
    exact ⟨T.fd_law, T.bt_law, fun base _ _ => K45.ok_law T⟩
