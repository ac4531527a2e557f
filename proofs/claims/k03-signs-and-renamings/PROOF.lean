import PyProof.Rows.All
import Wide.All
import OpenK.AllK
import Wide.FinOn
import PySem.Challenge.RW_textsputback_k03_signs_and_renamings
import HandS.ForMost
import HandS.ForExc
import HandS.IsInst
import HandS.Style
import HandS.Property
import HandS.Codes
import HandS.Star
import HandS.CallSlots
import HandS.WordsExc
import HandS.ExcIs
import HandS.SortInts
import HandS.DictComp
import HandS.TupLen
import HandS.Conv
import KE.KDictKeyed
import HandS.HeadHook3
import HandS.Replace
import HandS.SortOrd
import PyProof.CollectStr
import PyProof.ListStr
set_option Elab.async false
set_option linter.all false
set_option maxRecDepth 100000
set_option maxHeartbeats 400000
/-! ### my short words for readings -/
namespace Gx
open PySem PySem.Spec PyProof.Rows L2
section
variable {σ : L2.St} {H : Hp} {Q : VK} {D : Ends} {ta tb te : TE} {t u : TS} {x y v : V} {K : PySem.W.Frag}
theorem seq (h : t { D with nx := u D } σ H) : tSeq t u D σ H := h
theorem nx {n : L2.St → Hp → Prop} {r : VK} {b c : L2.St → Hp → Prop} (h : n σ H) : Ends.nx ⟨n, r, b, c⟩ σ H := h
theorem rt {n : L2.St → Hp → Prop} {r : VK} {b c : L2.St → Hp → Prop} (h : r v H) : Ends.rt ⟨n, r, b, c⟩ v H := h
theorem bk {n : L2.St → Hp → Prop} {r : VK} {b c : L2.St → Hp → Prop} (h : b σ H) : Ends.bk ⟨n, r, b, c⟩ σ H := h
theorem ct {n : L2.St → Hp → Prop} {r : VK} {b c : L2.St → Hp → Prop} (h : c σ H) : Ends.ct ⟨n, r, b, c⟩ σ H := h
theorem next (h : D.nx σ H) : tNext D σ H := h
theorem brk (h : D.bk σ H) : tBreak D σ H := h
theorem cont (h : D.ct σ H) : tCont D σ H := h
theorem asg {g : TG} (h : te σ H fun x H1 => g x σ H1 D.nx) : tAsg te g D σ H := h
theorem ret (h : te σ H D.rt) : tRet te D σ H := h
theorem retN (h : D.rt .non H) : tRetN D σ H := h
theorem drop (h : te σ H fun _ H1 => D.nx σ H1) : tDrop te D σ H := h
theorem ifs {c : TT} (h : c σ H fun b H1 => if b = true then t D σ H1 else u D σ H1) : tIfS c t u D σ H := h
theorem var {i : Nat} (e : σ[i]? = some (some v)) (h : Q v H) : tVar i σ H Q := ⟨v, e, h⟩
theorem con (h : Q v H) : tC v σ H Q := h
theorem op {r : R2} (h : ta σ H fun x H1 => tb σ H1 fun y H2 => r x y H2 Q) : tOp r ta tb σ H Q := h
theorem un {r : V → Hp → VK → Prop} (h : ta σ H fun x H1 => r x H1 Q) : tUn r ta σ H Q := h
theorem i0 {g : Int → Int → V} {i j : Int} (h : Q (g i j) H) : rI0 g (.int i) (.int j) H Q := ⟨i, j, rfl, rfl, h⟩
theorem i1 {C : Int → Int → Prop} {g : Int → Int → V} {i j : Int} (c : C i j) (h : Q (g i j) H) : rI C g (.int i) (.int j) H Q := ⟨i, j, rfl, rfl, c, h⟩
theorem iu {g : Int → V} {i : Int} (h : Q (g i) H) : rU g (.int i) H Q := ⟨i, rfl, h⟩
theorem eqI {i j : Int} (h : Q (.bl (decide (i = j))) H) : rEq (.int i) (.int j) H Q := ⟨rfl, by rw [show decide (V.int i = V.int j) = decide (i = j) from by simp]; exact h⟩
theorem eqS {i j : Str} (h : Q (.bl (decide (i = j))) H) : rEq (.str i) (.str j) H Q := ⟨rfl, by rw [show decide (V.str i = V.str j) = decide (i = j) from by simp]; exact h⟩
theorem eqB {i j : Bool} (h : Q (.bl (decide (i = j))) H) : rEq (.bl i) (.bl j) H Q := ⟨rfl, by rw [show decide (V.bl i = V.bl j) = decide (i = j) from by simp]; exact h⟩
theorem neI {i j : Int} (h : Q (.bl (!decide (i = j))) H) : rNe (.int i) (.int j) H Q := ⟨rfl, by rw [show decide (V.int i = V.int j) = decide (i = j) from by simp]; exact h⟩
theorem neS {i j : Str} (h : Q (.bl (!decide (i = j))) H) : rNe (.str i) (.str j) H Q := ⟨rfl, by rw [show decide (V.str i = V.str j) = decide (i = j) from by simp]; exact h⟩
theorem isB {a b : Bool} (h : Q (.bl (decide (a = b))) H) : rIsB (.bl a) (.bl b) H Q := ⟨a, b, rfl, rfl, h⟩
theorem name {i : Nat} {N : L2.St → Hp → Prop} (h : N (σ.set i (some v)) H) : gName i v σ H N := h
theorem test {Q : Bool → Hp → Prop} (h : te σ H fun x H' => ∃ k, x = .bl k ∧ Q k H') : tTest te σ H Q := h
theorem tB {Q : Bool → Hp → Prop} (h : te σ H fun x H' => ∃ k, x = .bl k ∧ Q k H') : tB te σ H Q := h
theorem exb {b : Bool} {p : Bool → Prop} (h : p b) : ∃ k, V.bl b = .bl k ∧ p k := ⟨b, rfl, h⟩
theorem exi {b : Int} {p : Int → Prop} (h : p b) : ∃ k, V.int b = .int k ∧ p k := ⟨b, rfl, h⟩
theorem exs {b : Str} {p : Str → Prop} (h : p b) : ∃ k, V.str b = .str k ∧ p k := ⟨b, rfl, h⟩
theorem exr {b : Addr} {p : Addr → Prop} (h : p b) : ∃ k, V.ref b = .ref k ∧ p k := ⟨b, rfl, h⟩
theorem not {c : TT} {Q : Bool → Hp → Prop} (h : c σ H fun b H1 => Q (!b) H1) : tNot c σ H Q := h
theorem and {c d : TT} {Q : Bool → Hp → Prop} (h : c σ H fun b H1 => if b = true then d σ H1 Q else Q false H1) : tAnd c d σ H Q := h
theorem or {c d : TT} {Q : Bool → Hp → Prop} (h : c σ H fun b H1 => if b = true then Q true H1 else d σ H1 Q) : tOr c d σ H Q := h
theorem notV (h : te σ H fun x H1 => ∃ c, x = .bl c ∧ Q (.bl (!c)) H1) : tNotV te σ H Q := h
theorem andV (h : ta σ H fun x H1 => ∃ c, x = .bl c ∧ if c = true then tb σ H1 Q else Q (.bl false) H1) : tAndV ta tb σ H Q := h
theorem orV (h : ta σ H fun x H1 => ∃ c, x = .bl c ∧ if c = true then Q (.bl true) H1 else tb σ H1 Q) : tOrV ta tb σ H Q := h
theorem ifE {c : TT} (h : c σ H fun b H1 => if b = true then ta σ H1 Q else tb σ H1 Q) : tIf c ta tb σ H Q := h
theorem cb {r : List V → Hp → VK → Prop} {t : TA} (h : t σ H fun vs H1 => r vs H1 Q) : tCB r t σ H Q := h
theorem anil {Q : List V → Hp → Prop} (h : Q [] H) : tNil σ H Q := h
theorem acons {tr : TA} {Q : List V → Hp → Prop} (h : te σ H fun x H1 => tr σ H1 fun xs H2 => Q (x :: xs) H2) : tCons te tr σ H Q := h
def CallK (sp : Sp) (dvs : List V) (E : XK) (vs : List V) (H : Hp) (Q : VK) : Prop := sp (vs ++ dvs) H Q E
theorem call {sp : Sp} {dvs : List V} {E : XK} {t : TA} (h : t σ H fun vs H1 => CallK sp dvs E vs H1 Q) : tCall sp dvs E t σ H Q := h
theorem call0 {sp : Sp} {E : XK} {vs : List V} (h : sp vs H Q E) : CallK sp [] E vs H Q := by
  unfold CallK
  rw [List.append_nil]
  exact h
/-- a new tuple, a new list is laid -/
def NewT (xs : List V) (H : Hp) (Q : VK) : Prop := xs.length ≤ sizeLine ∧ ∀ p, H p = none → Q (.ref p) (upd H p (.tup xs))
def NewL (xs : List V) (H : Hp) (Q : VK) : Prop := xs.length ≤ sizeLine ∧ ∀ p, H p = none → Q (.ref p) (upd H p (.lst xs))
theorem tup {t : TA} (h : t σ H fun xs H1 => NewT xs H1 Q) : tTup t σ H Q := h
theorem lst {t : TA} (h : t σ H fun xs H1 => NewL xs H1 Q) : tLst t σ H Q := h
theorem sl {r : V → Option Int → Option Int → Hp → VK → Prop} {tl th : TO} (h : te σ H fun x H1 => tl σ H1 fun l H2 => th σ H2 fun u H3 => r x l u H3 Q) : tSl r te tl th σ H Q := h
theorem nopart {Q : Option Int → Hp → Prop} (h : Q none H) : tNoPart σ H Q := h
theorem part {Q : Option Int → Hp → Prop} (h : te σ H fun x H1 => ∃ i, x = .int i ∧ Q (some i) H1) : tPart te σ H Q := h
theorem slS {z : Str} {lo hi : Option Int} (e : z.length ≤ sizeLine) (h : Q (.str (cutS z lo hi)) H) : rSlS (.str z) lo hi H Q := ⟨z, rfl, e, h⟩
theorem slL {a : Addr} {xs : List V} {lo hi : Option Int} (e : SqL K H a xs) (h : ∀ p, H p = none → Q (.ref p) (upd H p (.lst (cutV xs lo hi)))) : rSlL K (.ref a) lo hi H Q := ⟨a, xs, rfl, e, h⟩
theorem aug {i : Nat} {ti : TIp} (e : σ[i]? = some (some x)) (h : te σ H fun y H1 => ti x y H1 fun z H2 => D.nx (σ.set i (some z)) H2) : tAug i te ti D σ H := ⟨x, e, h⟩
theorem ipi {f : Int → Int → Int} {i j : Int} (h : Q (.int (f i j)) H) : ipI f (.int i) (.int j) H Q := ⟨i, j, rfl, rfl, h⟩
/-! built-ins by name -/
def rLenS : List V → Hp → VK → Prop := fun xs H Q => ∃ z, xs = [.str z] ∧ z.length ≤ sizeLine ∧ Q (.int z.length) H
def rLenQ (K : PySem.W.Frag) : List V → Hp → VK → Prop := fun xs H Q => ∃ p ys, xs = [.ref p] ∧ (SqL K H p ys ∨ SqT K H p ys) ∧ Q (.int ys.length) H
def rAbs : List V → Hp → VK → Prop := fun xs H Q => ∃ i, xs = [.int i] ∧ Q (.int (if i < 0 then -i else i)) H
def rMin2 : List V → Hp → VK → Prop := fun xs H Q => ∃ i j, xs = [.int i, .int j] ∧ Q (.int (if j < i then j else i)) H
def rMax2 : List V → Hp → VK → Prop := fun xs H Q => ∃ i j, xs = [.int i, .int j] ∧ Q (.int (if j > i then j else i)) H
def rInt1 : List V → Hp → VK → Prop := fun xs H Q => (∃ i, xs = [.int i] ∧ Q (.int i) H) ∨ ∃ k, xs = [.bl k] ∧ Q (.int (if k then 1 else 0)) H
def rAddS : R2 := fun x y H Q => ∃ i j, x = .str i ∧ y = .str j ∧ i.length + j.length ≤ sizeLine ∧ Q (.str (i ++ j)) H
theorem addS {i j : Str} (c : i.length + j.length ≤ sizeLine) (h : Q (.str (i ++ j)) H) : rAddS (.str i) (.str j) H Q := ⟨i, j, rfl, rfl, c, h⟩
theorem lenS {z : Str} (c : z.length ≤ sizeLine) (h : Q (.int z.length) H) : rLenS [.str z] H Q := ⟨z, rfl, c, h⟩
theorem lenL {p : Addr} {xs : List V} (c : SqL K H p xs) (h : Q (.int xs.length) H) : rLenQ K [.ref p] H Q := ⟨p, xs, rfl, .inl c, h⟩
theorem lenT {p : Addr} {xs : List V} (c : SqT K H p xs) (h : Q (.int xs.length) H) : rLenQ K [.ref p] H Q := ⟨p, xs, rfl, .inr c, h⟩
theorem abs {i : Int} (h : Q (.int (if i < 0 then -i else i)) H) : rAbs [.int i] H Q := ⟨i, rfl, h⟩
theorem min2 {i j : Int} (h : Q (.int (if j < i then j else i)) H) : rMin2 [.int i, .int j] H Q := ⟨i, j, rfl, h⟩
theorem max2 {i j : Int} (h : Q (.int (if j > i then j else i)) H) : rMax2 [.int i, .int j] H Q := ⟨i, j, rfl, h⟩
theorem int1 {i : Int} (h : Q (.int i) H) : rInt1 [.int i] H Q := .inl ⟨i, rfl, h⟩
theorem ixL {p : Addr} {xs : List V} {i : Int} (c : SqL K H p xs) (a : atI xs i = some v) (h : Q v H) : rIxL K (.ref p) (.int i) H Q := ⟨p, xs, i, v, rfl, rfl, c, a, h⟩
theorem atI_map {α : Type} {f : α → V} {xs : List α} {d : α} {i : Int} (h0 : 0 ≤ i) (h1 : i < xs.length) : atI (xs.map f) i = some (f (xs.getD i.toNat d)) := by
  have e : i = ((i.toNat : Nat) : Int) := by omega
  have h2 : i.toNat < xs.length := by omega
  rw [e]
  refine atI_nat ?_
  rw [List.getElem?_map, Int.toNat_natCast, List.getElem?_eq_getElem h2, List.getD_eq_getElem?_getD, List.getElem?_eq_getElem h2]
  rfl
theorem ixLI {p : Addr} {xs : List Int} {i : Int} (c : SqL K H p (xs.map V.int)) (h0 : 0 ≤ i) (h1 : i < xs.length) (h : Q (.int (xs.getD i.toNat 0)) H) : rIxL K (.ref p) (.int i) H Q := ⟨p, _, i, _, rfl, rfl, c, atI_map h0 h1, h⟩
theorem lenLm {α : Type} {f : α → V} {p : Addr} {xs : List α} (c : SqL K H p (xs.map f)) (h : Q (.int xs.length) H) : rLenQ K [.ref p] H Q := ⟨p, _, rfl, .inl c, by rw [List.length_map]; exact h⟩
theorem lenTm {α : Type} {f : α → V} {p : Addr} {xs : List α} (c : SqT K H p (xs.map f)) (h : Q (.int xs.length) H) : rLenQ K [.ref p] H Q := ⟨p, _, rfl, .inr c, by rw [List.length_map]; exact h⟩
theorem ixT {p : Addr} {xs : List V} {i : Int} (c : SqT K H p xs) (a : atI xs i = some v) (h : Q v H) : rIxT K (.ref p) (.int i) H Q := ⟨p, xs, i, v, rfl, rfl, c, a, h⟩
theorem ixS {z : Str} {i : Int} {c : Nat} (l : z.length ≤ sizeLine) (a : atI z.cps.toList i = some c) (h : Q (.str ⟨#[c]⟩) H) : rIxS (.str z) (.int i) H Q := ⟨z, i, c, rfl, rfl, l, a, h⟩
theorem bm {T : String} {r : V → List V → Hp → VK → Prop} {t : TA} (h : ta σ H fun x H1 => tyV K T x H1 ∧ t σ H1 fun xs H2 => r x xs H2 Q) : tBM K T r ta t σ H Q := h
theorem bm0 {T : String} {r : V → List V → Hp → VK → Prop} (h : ta σ H fun x H1 => tyV K T x H1 ∧ r x [] H1 Q) : tBM0 K T r ta σ H Q := h
theorem tyL {p : Addr} {xs : List V} {A : Prop} (e : H p = some (.lst xs)) (h : A) : tyV K "list" (.ref p) H ∧ A := ⟨.inl ⟨rfl, _, .inl (.inl e)⟩, h⟩
theorem app {p : Addr} {xs : List V} (e : H p = some (.lst xs)) (c : xs.length < sizeLine) (h : Q .non (upd H p (.lst (xs ++ [y])))) : rAppend (.ref p) [y] H Q := ⟨p, xs, y, rfl, rfl, e, c, h⟩
theorem appI {p : Addr} {xs : List Int} {z : Int} (e : H p = some (.lst (xs.map V.int))) (c : xs.length < 16777216) (h : Q .non (upd H p (.lst ((xs ++ [z]).map V.int)))) : rAppend (.ref p) [.int z] H Q := ⟨p, _, _, rfl, rfl, e, by rw [List.length_map, sizeLine_eq]; exact c, by rw [List.map_append] at h; exact h⟩
theorem appS {p : Addr} {xs : List Str} {z : Str} (e : H p = some (.lst (xs.map V.str))) (c : xs.length < 16777216) (h : Q .non (upd H p (.lst ((xs ++ [z]).map V.str)))) : rAppend (.ref p) [.str z] H Q := ⟨p, _, _, rfl, rfl, e, by rw [List.length_map, sizeLine_eq]; exact c, by rw [List.map_append] at h; exact h⟩
theorem appR {p : Addr} {xs : List Addr} {z : Addr} (e : H p = some (.lst (xs.map V.ref))) (c : xs.length < 16777216) (h : Q .non (upd H p (.lst ((xs ++ [z]).map V.ref)))) : rAppend (.ref p) [.ref z] H Q := ⟨p, _, _, rfl, rfl, e, by rw [List.length_map, sizeLine_eq]; exact c, by rw [List.map_append] at h; exact h⟩
theorem for_ {wi : TI} {g : TG} (h : wi σ H fun J H1 => ∃ W : Nat → Nat → L2.St → Hp → Prop, (∃ m, W 0 m σ H1) ∧ ∀ i m σ H, W i m σ H →
  (J.stop i H ∧ D.nx σ H) ∨ (J.go i H ∧ ∃ N : L2.St → Hp → Prop, (∀ σ' H', N σ' H' → ∃ m', m' < m ∧ W (i + 1) m' σ' H') ∧ ∀ x H', J.yld i H x H' → g x σ H' fun σ2 H2 => t { D with nx := N, ct := N, bk := D.nx } σ2 H2)) : tFor wi g t D σ H := h
theorem rng1 {tas : TA} {R : It → Hp → Prop} (h : tas σ H fun vs H1 => ∃ j : Int, vs = [.int j] ∧ -(2 ^ 62) ≤ j ∧ j < 2 ^ 62 ∧ R (Itr 0 j.toNat) H1) : iRng1 tas σ H R := h
theorem rng2 {tas : TA} {R : It → Hp → Prop} (h : tas σ H fun vs H1 => ∃ i j : Int, vs = [.int i, .int j] ∧ (-(2 ^ 62) ≤ i ∧ i < 2 ^ 62 ∧ -(2 ^ 62) ≤ j ∧ j < 2 ^ 62) ∧ R (Itr i (j - i).toNat) H1) : iRng2 tas σ H R := h
theorem ilst {R : It → Hp → Prop} (h : te σ H fun x H1 => ∃ a, x = .ref a ∧ (∃ xs, SqL K H1 a xs) ∧ R (Itl K a) H1) : iList K te σ H R := h
theorem itup {R : It → Hp → Prop} (h : te σ H fun x H1 => ∃ a, x = .ref a ∧ (∃ xs, SqT K H1 a xs) ∧ R (Itt K a) H1) : iTup K te σ H R := h
theorem lc {wi : TI} {g : TG} {tt : TT} {vs : List Nat} (h : wi σ H fun J H1 => ∀ D, H1 D = none → ∃ W : Nat → Nat → Hp → Prop, (∃ m, W 0 m (upd H1 D (.lst []))) ∧ ∀ i m H, W i m H →
  (J.stop i H ∧ Q (.ref D) H) ∨ (J.go i H ∧ ∃ Nx : Hp → Prop, (∀ H', Nx H' → ∃ m', m' < m ∧ W (i + 1) m' H') ∧ ∀ x H', J.yld i H x H' → g x (wipe σ vs) H' fun σ2 H2 => wipe σ2 vs = wipe σ vs ∧ tt σ2 H2 fun b H3 =>
    if b = true then te σ2 H3 fun y H4 => ∃ acc, H4 D = some (.lst acc) ∧ acc.length < sizeLine ∧ Nx (upd H4 D (.lst (acc ++ [y]))) else Nx H3)) : tLc wi g tt te vs σ H Q := h
theorem yes {Q : Bool → Hp → Prop} (h : Q true H) : tYes σ H Q := h
/-- a new object: the heap behind it by what is known of it -/
structure Ext1 (H H1 : Hp) (p : Addr) (o : HO) : Prop where
  fresh : H p = none
  same : Same H H1
  at_ : H1 p = some o
  off : ∀ b, b ≠ p → H1 b = H b
theorem new {o : HO} {R : Addr → Hp → Prop} (h : ∀ p H1, Ext1 H H1 p o → R p H1) : ∀ p, H p = none → R p (upd H p o) := fun p np =>
  h p _ ⟨np, fun b u e => by rw [upd_ne (ne_of_none e np)]; exact e, upd_same, fun b hb => upd_ne hb⟩
theorem ext1 {p : Addr} {o : HO} (np : H p = none) : Ext1 H (upd H p o) p o := ⟨np, fun b u e => by rw [upd_ne (ne_of_none e np)]; exact e, upd_same, fun b hb => upd_ne hb⟩
theorem newL {xs : List V} (c : xs.length ≤ 16777216) (h : ∀ p H1, Ext1 H H1 p (.lst xs) → Q (.ref p) H1) : NewL xs H Q := ⟨by rw [sizeLine_eq]; exact c, fun p np => h p _ (ext1 np)⟩
theorem newT {xs : List V} (c : xs.length ≤ 16777216) (h : ∀ p H1, Ext1 H H1 p (.tup xs) → Q (.ref p) H1) : NewT xs H Q := ⟨by rw [sizeLine_eq]; exact c, fun p np => h p _ (ext1 np)⟩
theorem slL1 {a : Addr} {xs : List V} {lo hi : Option Int} (e : SqL K H a xs) (h : ∀ p H1, Ext1 H H1 p (.lst (cutV xs lo hi)) → Q (.ref p) H1) : rSlL K (.ref a) lo hi H Q := ⟨a, xs, rfl, e, fun p np => h p _ (ext1 np)⟩
theorem cat1 {a b : Addr} {xs ys : List V} (e1 : H a = some (.lst xs)) (e2 : H b = some (.lst ys)) (c : xs.length + ys.length ≤ 16777216) (h : ∀ p H1, Ext1 H H1 p (.lst (xs ++ ys)) → Q (.ref p) H1) : rCat (.ref a) (.ref b) H Q :=
  ⟨a, b, xs, ys, rfl, rfl, e1, e2, by rw [sizeLine_eq]; exact c, fun p np => h p _ (ext1 np)⟩
/-- a new list or tuple is displayed -/
theorem newD {n : Nat} {o : HO} {R : Addr → Hp → Prop} (c : n ≤ sizeLine) (h : ∀ p H1, Ext1 H H1 p o → R p H1) : n ≤ sizeLine ∧ ∀ p, H p = none → R p (upd H p o) := ⟨c, new h⟩
/-- an object that H0 does not know is written -/
theorem Same.put {H0 H1 : Hp} {p : Addr} {o : HO} (s : Same H0 H1) (n : H0 p = none) : Same H0 (upd H1 p o) := fun b u e => by rw [upd_ne (ne_of_none e n)]; exact s b u e
theorem made_same {H H' : Hp} {x dx C : Addr} {fs : List (Str × V)} (nx : H x = none) (ndx : H dx = none) (off : ∀ b, b ≠ x → H' b = (upd (upd H dx (.own x)) x (.ins C dx fs)) b) : Same H H' := fun b o e => by
  rw [off b (ne_of_none e nx), upd_ne (ne_of_none e nx), upd_ne (ne_of_none e ndx)]
  exact e
theorem and2 {p1 p2 : Prop} [Decidable p1] [Decidable p2] {tb : TE} (hb : p1 → ∀ Q' : VK, Q' (.bl (decide p2)) H → tb σ H Q') (h : Q (.bl (decide (p1 ∧ p2))) H) : if decide p1 = true then tb σ H Q else Q (.bl false) H := by
  by_cases h1 : p1
  · rw [decide_eq_true h1]
    refine hb h1 _ ?_
    rw [show decide (p1 ∧ p2) = decide p2 from decide_eq_decide.mpr ⟨fun h => h.2, fun h => ⟨h1, h⟩⟩] at h
    exact h
  · rw [decide_eq_false h1]
    rw [show decide (p1 ∧ p2) = false from decide_eq_false fun z => h1 z.1] at h
    exact h
theorem and3 {p1 p2 p3 : Prop} [Decidable p1] [Decidable p2] [Decidable p3] {tb tc : TE} (hb : p1 → ∀ Q' : VK, Q' (.bl (decide p2)) H → tb σ H Q') (hc : p1 → p2 → ∀ Q' : VK, Q' (.bl (decide p3)) H → tc σ H Q')
    (h : Q (.bl (decide (p1 ∧ p2 ∧ p3))) H) : if decide p1 = true then tAndV tb tc σ H Q else Q (.bl false) H :=
  and2 (p2 := p2 ∧ p3) (fun h1 Q' q => hb h1 _ ⟨_, rfl, and2 (hc h1) q⟩) h
theorem ok2 : (2 : Int) ^ 62 = 4611686018427387904 := by decide
theorem iteD {p : Prop} [Decidable p] {A B : Prop} (h1 : p → A) (h2 : ¬ p → B) : if decide p = true then A else B := by
  by_cases h : p
  · rw [decide_eq_true h]; exact h1 h
  · rw [decide_eq_false h]; exact h2 h
theorem iteDn {p : Prop} [Decidable p] {A B : Prop} (h1 : ¬ p → A) (h2 : p → B) : if (!decide p) = true then A else B := by
  by_cases h : p
  · rw [decide_eq_true h]; exact h2 h
  · rw [decide_eq_false h]; exact h1 h
theorem iteB {b : Bool} {A B : Prop} (h1 : b = true → A) (h2 : b = false → B) : if b = true then A else B := by
  cases b
  · exact h2 rfl
  · exact h1 rfl
theorem iteNB {b : Bool} {A B : Prop} (h1 : b = false → A) (h2 : b = true → B) : if (!b) = true then A else B := by
  cases b
  · exact h1 rfl
  · exact h2 rfl
theorem cmulR {i j : Int} (h1 : -18446744073709551616 < j) (h2 : j < 18446744073709551616) : CMul i j := .inr ⟨by simpa using h1, by simpa using h2⟩
theorem cmulL {i j : Int} (h1 : -18446744073709551616 < i) (h2 : i < 18446744073709551616) : CMul i j := .inl ⟨by simpa using h1, by simpa using h2⟩
theorem cdiv {i j : Int} (h1 : 0 < j) (h2 : j < 1073741824) : CDiv i j := ⟨h1, h2⟩
theorem cpow {i j : Int} (h1 : 0 ≤ j) (h2 : j ≤ 1000000) (h3 : i.natAbs < 18446744073709551616) : CPow i j := ⟨h1, h2, by simpa using h3⟩
theorem line {n : Nat} (h : n ≤ 16777216) : n ≤ sizeLine := by rw [sizeLine_eq]; exact h
theorem lineL {n : Nat} (h : n < 16777216) : n < sizeLine := by rw [sizeLine_eq]; exact h
theorem itT {A B : Prop} (h : A) : if true = true then A else B := h
theorem itNtt {A B : Prop} (h : B) : if (!(true == true)) = true then A else B := h
theorem itNff {A B : Prop} (h : B) : if (!(false == false)) = true then A else B := h
theorem ittt {A B : Prop} (h : A) : if (true == true) = true then A else B := h
theorem itff {A B : Prop} (h : A) : if (false == false) = true then A else B := h
theorem itNF {A B : Prop} (h : A) : if (!false) = true then A else B := h
theorem itNT {A B : Prop} (h : B) : if (!true) = true then A else B := h
theorem itF {A B : Prop} (h : B) : if false = true then A else B := h
def rIsN : R2 := fun x y H Q => y = .non ∧ Q (.bl (decide (x = .non))) H
def rNotN : R2 := fun x y H Q => y = .non ∧ Q (.bl (!decide (x = .non))) H
theorem isNn (h : Q (.bl true) H) : rIsN .non .non H Q := ⟨rfl, h⟩
theorem isNi {i : Int} (h : Q (.bl false) H) : rIsN (.int i) .non H Q := ⟨rfl, h⟩
theorem isNs {i : Str} (h : Q (.bl false) H) : rIsN (.str i) .non H Q := ⟨rfl, h⟩
theorem isNb {i : Bool} (h : Q (.bl false) H) : rIsN (.bl i) .non H Q := ⟨rfl, h⟩
theorem isNr {i : Addr} (h : Q (.bl false) H) : rIsN (.ref i) .non H Q := ⟨rfl, h⟩
theorem notNn (h : Q (.bl false) H) : rNotN .non .non H Q := ⟨rfl, h⟩
theorem notNi {i : Int} (h : Q (.bl true) H) : rNotN (.int i) .non H Q := ⟨rfl, h⟩
theorem notNs {i : Str} (h : Q (.bl true) H) : rNotN (.str i) .non H Q := ⟨rfl, h⟩
theorem notNb {i : Bool} (h : Q (.bl true) H) : rNotN (.bl i) .non H Q := ⟨rfl, h⟩
theorem notNr {i : Addr} (h : Q (.bl true) H) : rNotN (.ref i) .non H Q := ⟨rfl, h⟩
variable {X : Cx}
theorem op_isNG : OpR X (compareOp .Is) rIsN := op_isN
theorem op_notNG : OpR X (compareOp .IsNot) rNotN := op_notN
theorem cr_lenS : CallR X (.builtin "len") rLenS := call_len_str
theorem cr_lenQ : CallR X (.builtin "len") (rLenQ X.K) := call_len_seq
theorem cr_abs : CallR X (.builtin "abs") rAbs := call_abs
theorem cr_min2 (hc : X.calm = true) : CallR X (.builtin "min") rMin2 := call_min2 hc
theorem cr_max2 (hc : X.calm = true) : CallR X (.builtin "max") rMax2 := call_max2 hc
theorem cr_int1 : CallR X (.type "int") rInt1 := call_int1
theorem op_addS : OpR X (binaryOp .Add) rAddS := op_add_str
end
end Gx
/-! ### further rules of mine -/
namespace Gx
open PySem PySem.Spec PyProof.Rows L2
section
variable {X : Cx} {C g f : Addr} {bmB : List Value} {B newId initId : String} {CX : CXT} {k n : Nat} {fd : FuncData} {ps : List Str} {sp : Sp} {o fe e : Expr} {es : List Expr} {ta tf : TE} {t : TA} {m : Str} {p pos apos : Pos}
/-- X() of an own exception class -/
theorem pmk_own0 {x : Str} (F : ExcBaseFacts B newId initId bmB) (q : PySem.W.excIn X.K C bmB newId = true) (gC : X.mg x = some (.ref C)) (kC : PySem.W.keepIn X.K (.ref C) = true) (r : Raises X (.ref C)) (hg : Gl X x)
    (hdb : (x == ("__debug__" : Str)) = false := by decide) : PMk X (.Call (.Name x p) [] [] pos) (fun _ H Q => Q (.ref C) none H) := by
  intro pins s σ H Q I h
  refine wpAny_Call_Name_kw (ld_glob I hg gC ?_ hdb)
  refine PySem.W.callWith_K0 (first := []) I.kIn kC ?_
  obtain ⟨bm, N, nm, qn, bs, hdct, sn, sub, ab, col, dd, k0, k1, k2, k3, k5, mN, hC, hN, hni, T⟩ := exc_obj I.kIn q
  refine wpAny_call_exc_subT F T hC hN hni (fun h' e hm => ?_) (by show 0 ≤ sizeLine; rw [sizeLine_eq]; omega)
  exact mk_of I hm r h (I.hok.gone hm.new)
/-- o.m(e, ..) where what is raised is wished for at the slots -/
def tMethS (C : Addr) (m : Str) (sp : Sp) (E : L2.St → XK) (ta : TE) (t : TA) : TE := fun σ H Q => ta σ H fun x H1 => ∃ a dx fs, x = .ref a ∧ H1 a = some (.ins C dx fs) ∧ fs.lookup m = none ∧
  t σ H1 fun vs H2 => sp (x :: vs) H2 Q (E σ)
theorem pe_methS {E : L2.St → XK} {pl : Sem Bool} (he : PE X o ta) (c : Cls X.K C) (hm : Meth X.K C m f) (F : FnOk X.prog X.w X.K X.mg X.base CX k f fd ps sp) (hr : Room k X.A) (hb : Binds X.K fd ps []) (hx : ∀ σ, PassesAt CX X σ (E σ)) (ha : PA X (e :: es) t)
    (hst : starEach (e :: es) X.env = (false, eval e X.env) :: starEach es X.env := by rfl) (hpl : (backTo pos (starEach es X.env)).any (·.1) = false := by rfl)
    (ht : eval (.Call (.Attribute o m apos) (e :: es) [] pos) X.env = (do
      let ov ← eval o X.env
      standAt apos.atName
      let (f, first) ← holding [ov] (getMethod ov m pl)
      callWith pos f first (backTo pos (starEach (e :: es) X.env)) (backToKw pos (keywordEach [] X.env))) := by rfl) :
    PE X (.Call (.Attribute o m apos) (e :: es) [] pos) (tMethS C m sp E ta t) := by
  refine ⟨fun pins s σ H Q I h => ?_⟩
  refine PySem.W.methodCall_KW (pl := pl) (thn (he.run pins s σ H _ I h) fun u s1 ⟨x, H1, I1, rx, a, dx, fs, ex, ea, l, q⟩ => ?_) ht
  subst ex
  obtain rfl : u = Value.ref a := rx
  refine getmeth_ok I1 ea c hm l ?_
  refine PySem.W.callWith_K (first := [.ref a]) (h₀ := X.base) I.ok.mod.kin hm.kp (thn (ha.run pos pins s1 σ H1 _ I1 q) fun us s2 ⟨vs, H2, I2, r, q2⟩ => ⟨I2.kIn, ?_⟩) hst hpl
  exact run_fnS (us := .ref a :: us) (vs := .ref a :: vs) F hr hb (hx σ) I2 (.cons rfl r) q2
/-- the instance's call: its node's code -/
theorem code_fnS {E : L2.St → XK} {pins : List (Addr × Obj)} {σ : L2.St} {H : Hp} {s : Shared} {Q : VK} {us : List Value} {vs : List V} (F : FnOk X.prog X.w X.K X.mg X.base CX k f fd ps sp) (hr : Room k X.A) (hb : Binds X.K fd ps []) (hx : PassesAt CX X σ (E σ))
    (I : Inv X pins σ H s) (r : Vals vs us) (h : sp vs H Q (E σ)) : codeAny (model X.prog X.w) X.A (.call (.ref f) ⟨us, []⟩) (wants (EP X pins σ Q) X.xe) s := by
  have hl : us.length = ps.length := by rw [← r.length]; exact F.len _ _ _ _ h
  have b := hb s us I.kIn (by rw [List.append_nil]; exact hl)
  rw [List.append_nil] at b
  refine codeAny_mono (F.run X.A X.stack s H ⟨us, []⟩ us vs Q (E σ) hr I.env0 b r h) fun r s' hq => ?_
  cases r with
  | error e => exact hx pins H s e s' I hq
  | ok fl =>
    cases fl with
    | ret u => exact I.after hq
    | next => exact False.elim hq
    | brk => exact False.elim hq
    | cont => exact False.elim hq
/-- o(e, ..), o an instance of C with __call__ -/
def tCallOS (C : Addr) (sp : Sp) (E : L2.St → XK) (tf : TE) (t : TA) : TE := fun σ H Q => tf σ H fun y H1 => ∃ a, y = V.ref a ∧ t σ H1 fun vs H2 => (∃ dx fs, H2 a = some (.ins C dx fs)) ∧ sp (V.ref a :: vs) H2 Q (E σ)
theorem pe_callOS {E : L2.St → XK} (hf : PE X fe tf) (c : StX.CallO X.K C g) (F : FnOk X.prog X.w X.K X.mg X.base CX k g fd ps sp) (hr : Room k X.A) (hb : Binds X.K fd ps []) (hx : ∀ σ, PassesAt CX X σ (E σ)) (ha : PA X (e :: es) t)
    (ht : eval (.Call fe (e :: es) [] pos) X.env = (do callWith pos (← eval fe X.env) [] (backTo pos (starEach (e :: es) X.env)) (backToKw pos (keywordEach [] X.env))) := by rfl)
    (he : starEach (e :: es) X.env = (false, eval e X.env) :: starEach es X.env := by rfl) (hpl : (backTo pos (starEach es X.env)).any (·.1) = false := by rfl) : PE X (.Call fe (e :: es) [] pos) (tCallOS C sp E tf t) := by
  refine ⟨fun pins s σ H Q I h => ?_⟩
  refine Call_ (thn (hf.run pins s σ H _ I h) fun u s1 ⟨y, H1, I1, ry, a, ey, q⟩ => ?_) ht
  subst ey
  obtain rfl : u = Value.ref a := ry
  refine StX.callO_with (thn (ha.run pos pins s1 σ H1 _ I1 q) fun us s2 ⟨vs, H2, I2, r, ⟨dx, fs, hi⟩, q2⟩ => ?_) he hpl
  obtain ⟨ox, od, J, hd⟩ := StX.insC_at (X := X) I2 (.inr ⟨dx, fs, hi⟩)
  refine ⟨⟨C, ox, od, J, hd⟩, wpAny_call (PySem.W.kco_code I2.kIn J hd c.at_ c.fn c.fi ?_)⟩
  exact code_fnS (us := .ref a :: us) (vs := .ref a :: vs) F hr hb (hx σ) I2 (.cons rfl r) q2
/-- x == y, x an instance of C with its own __eq__ -/
def rEqO (C : Addr) (sp : Sp) (K : PySem.W.Frag) : R2 := fun x y H Q => ∃ a dx fs tb, x = .ref a ∧ H a = some (.ins C dx fs) ∧ TyX K H y tb ∧ PySem.W.notFirst K C tb = true ∧ sp [x, y] H (fun v H' => (∃ b, v = .bl b) ∧ Q v H') E0
theorem looks_ty {K : PySem.W.Frag} {M : Model} {pins : List (Addr × Obj)} {σ : L2.St} {H : Hp} {s : Shared} {x : V} {u t : Value} (I : Inv X pins σ H s) (rx : RelV x u) (ty : TyX X.K H x t) : PySem.W.Looks M s.heap (typeOf u) t := by
  obtain ⟨P, Z, p, _⟩ := kit_of I rx ty
  exact Z.ty _ _ I.kIn p
theorem op_eqO (c : PySem.W.findIn X.K (.ref C) "__eq__" = some (some (.ref f))) (hf : PySem.W.isFn X.K (.ref f) = true) (F : FnOk X.prog X.w X.K X.mg X.base CX0 k f fd ps sp) (hr : Room k X.A) (hb : Binds X.K fd ps []) : OpR X (compareOp .Eq) (rEqO C sp X.K) := by
  intro pins s σ H x y v u Q I rx ry hq
  obtain ⟨a, dx, fs, tb, rfl, ha, ty, nf, q⟩ := hq
  obtain rfl : v = Value.ref a := rx
  show wpAny (model X.prog X.w) X.A (richCompare .Eq (.ref a) u) (EP X pins σ Q) X.xe s
  obtain ⟨mA, J, _⟩ := ins_get I.hok ha
  obtain ⟨od, J, _⟩ := J.look
  obtain ⟨m, hF⟩ := I.fr
  refine PySem.W.cmp_K (op := .Eq) (tb := tb) hr.units0 hF I.ok.mod.kin J (looks_ty (K := X.K) I ry ty) nf c hf ?_
  refine wpAny_mono (run_fn (us := [.ref a, u]) (vs := [.ref a, y]) (ds := []) (dvs := []) F hr hb .nil pass0 I (.cons rfl (.cons ry .nil)) q) (fun z s' hz => ?_) fun _ _ h => h
  obtain ⟨v', H', I', rv, ⟨b, rfl⟩, q'⟩ := hz
  cases rv
  exact ⟨V.bl b, H', I', rfl, q'⟩
/-- isinstance(e, T), e the exception that the suite holds -/
def rIsE' (K : PySem.W.Frag) (D a : Addr) (cls : Value) (d : Option Addr) : List V → Hp → VK → Prop := fun xs H Q => cls = .ref D ∧ d = none ∧ rIsE K D a xs H Q
theorem cr_isE {a D : Addr} {cls : Value} {d : Option Addr} {oe : Obj} {pn : List (Addr × Obj)} (C : ExcC X.K D) (hz : Zc cls d oe) (hf : ∃ vs, oe.data = .fields vs) : CallR (X.suite a ((a, oe) :: pn)) (.builtin "isinstance") (rIsE' X.K D a cls d) := by
  intro pins s σ H xs us Q I r h
  obtain ⟨rfl, rfl, h⟩ := h
  exact call_isE C hz hf pins s σ H xs us Q I r h
theorem isi {K : PySem.W.Frag} {H : Hp} {Q : VK} {x c : V} {t u : Value} {b : Bool} (hc : ClsV c u) (ht : TyX K H x t) (e : PySem.W.kitOne K t u = some b) (h : Q (.bl b) H) : rIsi K [x, c] H Q := ⟨x, c, t, u, b, rfl, hc, ht, e, h⟩
theorem tyX_L {K : PySem.W.Frag} {H : Hp} {a : Addr} {xs : List V} (h : SqL K H a xs) : TyX K H (.ref a) (.type "list") := by
  rcases h with (h | ⟨o, h⟩) | ⟨o, its, n, h, hc, _⟩
  · exact .base (.lst h)
  · exact .base (.frz h)
  · exact .kList h hc
theorem tyX_T {K : PySem.W.Frag} {H : Hp} {a : Addr} {xs : List V} (h : SqT K H a xs) : TyX K H (.ref a) (.type "tuple") := by
  rcases h with (h | ⟨o, h⟩) | ⟨o, its, n, h, hc, _⟩
  · exact .base (.tup h)
  · exact .fTuple h
  · exact .kTuple h hc
theorem isi_ni {K : PySem.W.Frag} {H : Hp} {Q : VK} (h : Q (.bl false) H) : rIsi K [.non, .ty "int"] H Q := isi (.ty _) (.base .non) (kit_ty (by decide +kernel)) h
theorem isi_nb {K : PySem.W.Frag} {H : Hp} {Q : VK} (h : Q (.bl false) H) : rIsi K [.non, .ty "bool"] H Q := isi (.ty _) (.base .non) (kit_ty (by decide +kernel)) h
theorem isi_ns {K : PySem.W.Frag} {H : Hp} {Q : VK} (h : Q (.bl false) H) : rIsi K [.non, .ty "str"] H Q := isi (.ty _) (.base .non) (kit_ty (by decide +kernel)) h
theorem isi_nl {K : PySem.W.Frag} {H : Hp} {Q : VK} (h : Q (.bl false) H) : rIsi K [.non, .ty "list"] H Q := isi (.ty _) (.base .non) (kit_ty (by decide +kernel)) h
theorem isi_nt {K : PySem.W.Frag} {H : Hp} {Q : VK} (h : Q (.bl false) H) : rIsi K [.non, .ty "tuple"] H Q := isi (.ty _) (.base .non) (kit_ty (by decide +kernel)) h
theorem isi_ii {K : PySem.W.Frag} {H : Hp} {Q : VK} {i : Int} (h : Q (.bl true) H) : rIsi K [.int i, .ty "int"] H Q := isi (.ty _) (.base (.int i)) (kit_ty (by decide +kernel)) h
theorem isi_ib {K : PySem.W.Frag} {H : Hp} {Q : VK} {i : Int} (h : Q (.bl false) H) : rIsi K [.int i, .ty "bool"] H Q := isi (.ty _) (.base (.int i)) (kit_ty (by decide +kernel)) h
theorem isi_is {K : PySem.W.Frag} {H : Hp} {Q : VK} {i : Int} (h : Q (.bl false) H) : rIsi K [.int i, .ty "str"] H Q := isi (.ty _) (.base (.int i)) (kit_ty (by decide +kernel)) h
theorem isi_il {K : PySem.W.Frag} {H : Hp} {Q : VK} {i : Int} (h : Q (.bl false) H) : rIsi K [.int i, .ty "list"] H Q := isi (.ty _) (.base (.int i)) (kit_ty (by decide +kernel)) h
theorem isi_it {K : PySem.W.Frag} {H : Hp} {Q : VK} {i : Int} (h : Q (.bl false) H) : rIsi K [.int i, .ty "tuple"] H Q := isi (.ty _) (.base (.int i)) (kit_ty (by decide +kernel)) h
theorem isi_si {K : PySem.W.Frag} {H : Hp} {Q : VK} {z : Str} (h : Q (.bl false) H) : rIsi K [.str z, .ty "int"] H Q := isi (.ty _) (.base (.str z)) (kit_ty (by decide +kernel)) h
theorem isi_sb {K : PySem.W.Frag} {H : Hp} {Q : VK} {z : Str} (h : Q (.bl false) H) : rIsi K [.str z, .ty "bool"] H Q := isi (.ty _) (.base (.str z)) (kit_ty (by decide +kernel)) h
theorem isi_ss {K : PySem.W.Frag} {H : Hp} {Q : VK} {z : Str} (h : Q (.bl true) H) : rIsi K [.str z, .ty "str"] H Q := isi (.ty _) (.base (.str z)) (kit_ty (by decide +kernel)) h
theorem isi_sl {K : PySem.W.Frag} {H : Hp} {Q : VK} {z : Str} (h : Q (.bl false) H) : rIsi K [.str z, .ty "list"] H Q := isi (.ty _) (.base (.str z)) (kit_ty (by decide +kernel)) h
theorem isi_st {K : PySem.W.Frag} {H : Hp} {Q : VK} {z : Str} (h : Q (.bl false) H) : rIsi K [.str z, .ty "tuple"] H Q := isi (.ty _) (.base (.str z)) (kit_ty (by decide +kernel)) h
theorem isi_bi {K : PySem.W.Frag} {H : Hp} {Q : VK} {z : Bool} (h : Q (.bl true) H) : rIsi K [.bl z, .ty "int"] H Q := isi (.ty _) (.base (.bl z)) (kit_ty (by decide +kernel)) h
theorem isi_bb {K : PySem.W.Frag} {H : Hp} {Q : VK} {z : Bool} (h : Q (.bl true) H) : rIsi K [.bl z, .ty "bool"] H Q := isi (.ty _) (.base (.bl z)) (kit_ty (by decide +kernel)) h
theorem isi_bs {K : PySem.W.Frag} {H : Hp} {Q : VK} {z : Bool} (h : Q (.bl false) H) : rIsi K [.bl z, .ty "str"] H Q := isi (.ty _) (.base (.bl z)) (kit_ty (by decide +kernel)) h
theorem isi_bl {K : PySem.W.Frag} {H : Hp} {Q : VK} {z : Bool} (h : Q (.bl false) H) : rIsi K [.bl z, .ty "list"] H Q := isi (.ty _) (.base (.bl z)) (kit_ty (by decide +kernel)) h
theorem isi_bt {K : PySem.W.Frag} {H : Hp} {Q : VK} {z : Bool} (h : Q (.bl false) H) : rIsi K [.bl z, .ty "tuple"] H Q := isi (.ty _) (.base (.bl z)) (kit_ty (by decide +kernel)) h
theorem isi_Li {K : PySem.W.Frag} {H : Hp} {Q : VK} {a : Addr} {xs : List V} (hs : SqL K H a xs) (h : Q (.bl false) H) : rIsi K [.ref a, .ty "int"] H Q := isi (.ty _) (tyX_L hs) (kit_ty (by decide +kernel)) h
theorem isi_Lb {K : PySem.W.Frag} {H : Hp} {Q : VK} {a : Addr} {xs : List V} (hs : SqL K H a xs) (h : Q (.bl false) H) : rIsi K [.ref a, .ty "bool"] H Q := isi (.ty _) (tyX_L hs) (kit_ty (by decide +kernel)) h
theorem isi_Ls {K : PySem.W.Frag} {H : Hp} {Q : VK} {a : Addr} {xs : List V} (hs : SqL K H a xs) (h : Q (.bl false) H) : rIsi K [.ref a, .ty "str"] H Q := isi (.ty _) (tyX_L hs) (kit_ty (by decide +kernel)) h
theorem isi_Ll {K : PySem.W.Frag} {H : Hp} {Q : VK} {a : Addr} {xs : List V} (hs : SqL K H a xs) (h : Q (.bl true) H) : rIsi K [.ref a, .ty "list"] H Q := isi (.ty _) (tyX_L hs) (kit_ty (by decide +kernel)) h
theorem isi_Lt {K : PySem.W.Frag} {H : Hp} {Q : VK} {a : Addr} {xs : List V} (hs : SqL K H a xs) (h : Q (.bl false) H) : rIsi K [.ref a, .ty "tuple"] H Q := isi (.ty _) (tyX_L hs) (kit_ty (by decide +kernel)) h
theorem isi_Ti {K : PySem.W.Frag} {H : Hp} {Q : VK} {a : Addr} {xs : List V} (hs : SqT K H a xs) (h : Q (.bl false) H) : rIsi K [.ref a, .ty "int"] H Q := isi (.ty _) (tyX_T hs) (kit_ty (by decide +kernel)) h
theorem isi_Tb {K : PySem.W.Frag} {H : Hp} {Q : VK} {a : Addr} {xs : List V} (hs : SqT K H a xs) (h : Q (.bl false) H) : rIsi K [.ref a, .ty "bool"] H Q := isi (.ty _) (tyX_T hs) (kit_ty (by decide +kernel)) h
theorem isi_Ts {K : PySem.W.Frag} {H : Hp} {Q : VK} {a : Addr} {xs : List V} (hs : SqT K H a xs) (h : Q (.bl false) H) : rIsi K [.ref a, .ty "str"] H Q := isi (.ty _) (tyX_T hs) (kit_ty (by decide +kernel)) h
theorem isi_Tl {K : PySem.W.Frag} {H : Hp} {Q : VK} {a : Addr} {xs : List V} (hs : SqT K H a xs) (h : Q (.bl false) H) : rIsi K [.ref a, .ty "list"] H Q := isi (.ty _) (tyX_T hs) (kit_ty (by decide +kernel)) h
theorem isi_Tt {K : PySem.W.Frag} {H : Hp} {Q : VK} {a : Addr} {xs : List V} (hs : SqT K H a xs) (h : Q (.bl true) H) : rIsi K [.ref a, .ty "tuple"] H Q := isi (.ty _) (tyX_T hs) (kit_ty (by decide +kernel)) h
/-- fields -/
theorem sfld {K : PySem.W.Frag} {H : Hp} {D : Ends} {σ : L2.St} {ta tv : TE} {f : Str} (h : tv σ H fun y H1 => ta σ H1 fun x H2 => ∃ a C dx fs, x = .ref a ∧ H2 a = some (.ins C dx fs) ∧ Cls K C ∧ NoAttr K C f ∧ fs.length < 1000 ∧ D.nx σ (upd H2 a (.ins C dx (putF f y fs)))) : sFld K ta tv f D σ H := h
theorem meth {H : Hp} {Q : VK} {σ : L2.St} {ta : TE} {C : Addr} {m : Str} {sp : Sp} {E : XK} {t : TA} (h : ta σ H fun x H1 => ∃ a dx fs, x = .ref a ∧ H1 a = some (.ins C dx fs) ∧ fs.lookup m = none ∧ t σ H1 fun vs H2 => CallK sp [] E (x :: vs) H2 Q) : tMeth C m sp [] E ta t σ H Q := h
theorem make {H : Hp} {Q : VK} {σ : L2.St} {C : Addr} {sp : Sp} {E : XK} {t : TA} (h : t σ H fun vs H1 => ∀ x dx, H1 x = none → H1 dx = none → dx ≠ x → sp (.ref x :: vs) (upd (upd H1 dx (.own x)) x (.ins C dx [])) (fun v H2 => v = .non ∧ Q (.ref x) H2) E) : tMake C sp [] E t σ H Q := by
  unfold tMake
  have e : ∀ vs : List V, vs ++ [] = vs := fun vs => List.append_nil vs
  simp only [e]
  exact h
theorem fld {K : PySem.W.Frag} {H : Hp} {Q : VK} {σ : L2.St} {ta : TE} {f : Str} (h : ta σ H fun x H1 => ∃ a C dx fs v, x = .ref a ∧ H1 a = some (.ins C dx fs) ∧ Cls K C ∧ NoAttr K C f ∧ fs.lookup f = some v ∧ Q v H1) : tFld K ta f σ H Q := h
theorem passLS {X : Cx} : ∀ σ, PassesAt (L2.CX X.prog X.w) X σ E0 := fun σ pins H s e s' I c => passL pins σ H s e s' I c
theorem prop {H : Hp} {Q : VK} {σ : L2.St} {ta : TE} {C : Addr} {sp : Sp} {E : XK} (h : ta σ H fun x H1 => ∃ a dx fs, x = .ref a ∧ H1 a = some (.ins C dx fs) ∧ sp [.ref a] H1 Q E) : tProp C sp [] E ta σ H Q := h
theorem callO {H : Hp} {Q : VK} {σ : L2.St} {tf : TE} {t : TA} {C : Addr} {sp : Sp} {E : L2.St → XK} (h : tf σ H fun y H1 => ∃ a, y = V.ref a ∧ t σ H1 fun vs H2 => (∃ dx fs, H2 a = some (.ins C dx fs)) ∧ sp (V.ref a :: vs) H2 Q (E σ)) : tCallOS C sp E tf t σ H Q := h
theorem methS {H : Hp} {Q : VK} {σ : L2.St} {ta : TE} {C : Addr} {m : Str} {sp : Sp} {E : L2.St → XK} {t : TA} (h : ta σ H fun x H1 => ∃ a dx fs, x = .ref a ∧ H1 a = some (.ins C dx fs) ∧ fs.lookup m = none ∧ t σ H1 fun vs H2 => sp (x :: vs) H2 Q (E σ)) : tMethS C m sp E ta t σ H Q := h
theorem callS {sp : Sp} {E : L2.St → XK} {t : TA} {σ : L2.St} {H : Hp} {Q : VK} (h : t σ H fun vs H1 => sp vs H1 Q (E σ)) : tCallS sp E t σ H Q := h
end
end Gx
/-! ### texts as lists of code points -/
namespace Gx
open PySem PySem.Spec PyProof.Rows L2 TL
def mkS (l : List Nat) : Str := ⟨l.toArray⟩
theorem mkS_len (l : List Nat) : (mkS l).length = l.length := by simp [mkS, Str.length]
theorem mkS_tl (l : List Nat) : (mkS l).cps.toList = l := rfl
theorem mkS_app (a b : List Nat) : mkS a ++ mkS b = mkS (a ++ b) := by
  refine ext_tl ?_
  rw [tl_append]
  rfl
theorem mkS_inj {a b : List Nat} : mkS a = mkS b ↔ a = b := ⟨fun h => by
  have := congrArg (fun x => x.cps.toList) h
  exact this, fun h => by rw [h]⟩
theorem mkS_of (x : Str) : x = mkS x.cps.toList := rfl
theorem ofS (s : String) : Str.ofString s = mkS (s.toList.map Char.toNat) := ext_tl (tl_ofString s)
theorem sIx_int (n d : Nat) {i : Int} (h : 0 ≤ i) : HT.sIx n d (some i) = min i.toNat n := by
  have e : i = ((i.toNat : Nat) : Int) := by omega
  rw [e, HT.sIx_nat, Int.toNat_natCast]
theorem cut_A (l : List Nat) {j : Int} (h : 0 ≤ j) : cutS (mkS l) none (some j) = mkS (l.take j.toNat) := by
  show mkS (((mkS l).cps.toList.drop _).take _) = _
  rw [mkS_tl, mkS_len, HT.sIx_none, sIx_int _ _ h, List.drop_zero, Nat.sub_zero, ← List.take_eq_take_min]
theorem cut_B (l : List Nat) {i : Int} (h : 0 ≤ i) : cutS (mkS l) (some i) none = mkS (l.drop i.toNat) := by
  show mkS (((mkS l).cps.toList.drop _).take _) = _
  rw [mkS_tl, mkS_len, HT.sIx_none, sIx_int _ _ h]
  congr 1
  rw [List.take_of_length_le (by rw [List.length_drop]; omega)]
  by_cases c : i.toNat ≤ l.length
  · rw [Nat.min_eq_left c]
  · rw [Nat.min_eq_right (by omega), List.drop_length, List.drop_eq_nil_of_le (by omega)]
theorem cut_C (l : List Nat) {i j : Int} (h : 0 ≤ i) (h' : 0 ≤ j) : cutS (mkS l) (some i) (some j) = mkS ((l.take j.toNat).drop i.toNat) := by
  show mkS (((mkS l).cps.toList.drop _).take _) = _
  rw [mkS_tl, mkS_len, sIx_int _ _ h, sIx_int _ _ h']
  congr 1
  rw [List.drop_take]
  by_cases c : i.toNat ≤ l.length
  · rw [Nat.min_eq_left c]
    by_cases d : j.toNat ≤ l.length
    · rw [Nat.min_eq_left d]
    · rw [Nat.min_eq_right (by omega), List.take_of_length_le (by rw [List.length_drop]; omega), List.take_of_length_le (by rw [List.length_drop]; omega)]
  · rw [Nat.min_eq_right (a := i.toNat) (by omega), List.drop_length, List.drop_eq_nil_of_le (by omega)]
    simp
section
variable {σ : L2.St} {H : Hp} {Q : VK} {te to : TE} {K : PySem.W.Frag}
theorem conE {x y : Str} (e : x = y) (h : Q (.str y) H) : tC (.str x) σ H Q := by rw [e]; exact h
theorem sA {l : List Nat} {j : Int} (h0 : 0 ≤ j) (c : l.length ≤ 16777216) (h : Q (.str (mkS (l.take j.toNat))) H) : rSlS (.str (mkS l)) none (some j) H Q := ⟨_, rfl, by rw [mkS_len, sizeLine_eq]; exact c, by rw [cut_A l h0]; exact h⟩
theorem sB {l : List Nat} {j : Int} (h0 : 0 ≤ j) (c : l.length ≤ 16777216) (h : Q (.str (mkS (l.drop j.toNat))) H) : rSlS (.str (mkS l)) (some j) none H Q := ⟨_, rfl, by rw [mkS_len, sizeLine_eq]; exact c, by rw [cut_B l h0]; exact h⟩
theorem sC {l : List Nat} {i j : Int} (h0 : 0 ≤ i) (h1 : 0 ≤ j) (c : l.length ≤ 16777216) (h : Q (.str (mkS ((l.take j.toNat).drop i.toNat))) H) : rSlS (.str (mkS l)) (some i) (some j) H Q := ⟨_, rfl, by rw [mkS_len, sizeLine_eq]; exact c, by rw [cut_C l h0 h1]; exact h⟩
theorem addM {a b : List Nat} (c : a.length + b.length ≤ 16777216) (h : Q (.str (mkS (a ++ b))) H) : rAddS (.str (mkS a)) (.str (mkS b)) H Q := ⟨_, _, rfl, rfl, by rw [mkS_len, mkS_len, sizeLine_eq]; exact c, by rw [mkS_app]; exact h⟩
theorem lenM {l : List Nat} (c : l.length ≤ 16777216) (h : Q (.int l.length) H) : rLenS [.str (mkS l)] H Q := ⟨_, rfl, by rw [mkS_len, sizeLine_eq]; exact c, by rw [mkS_len]; exact h⟩
theorem eqM {a b : List Nat} (h : Q (.bl (decide (a = b))) H) : rEq (.str (mkS a)) (.str (mkS b)) H Q := ⟨rfl, by
  rw [show decide (V.str (mkS a) = V.str (mkS b)) = decide (a = b) from by simp [mkS_inj]]
  exact h⟩
theorem neM {a b : List Nat} (h : Q (.bl (!decide (a = b))) H) : rNe (.str (mkS a)) (.str (mkS b)) H Q := ⟨rfl, by
  rw [show decide (V.str (mkS a) = V.str (mkS b)) = decide (a = b) from by simp [mkS_inj]]
  exact h⟩
theorem ixM {l : List Nat} {i : Int} (h0 : 0 ≤ i) (h1 : i < l.length) (c : l.length ≤ 16777216) (h : Q (.str (mkS [l.getD i.toNat 0])) H) : rIxS (.str (mkS l)) (.int i) H Q := by
  have e : i = ((i.toNat : Nat) : Int) := by omega
  have h2 : i.toNat < l.length := by omega
  refine ⟨_, i, l.getD i.toNat 0, rfl, rfl, by rw [mkS_len, sizeLine_eq]; exact c, ?_, h⟩
  rw [mkS_tl, e]
  refine atI_nat ?_
  rw [Int.toNat_natCast, List.getElem?_eq_getElem h2, List.getD_eq_getElem?_getD, List.getElem?_eq_getElem h2]
  rfl
/-- sep.join(xs) -/
def rJoin (K : PySem.W.Frag) : V → List V → Hp → VK → Prop := fun x xs H Q => ∃ a p, ∃ ys : List Str, x = .str a ∧ xs = [.ref p] ∧ (SqL K H p (ys.map V.str) ∨ SqT K H p (ys.map V.str)) ∧
      (ys.map (·.length)).sum + ys.length * a.length ≤ 16777216 ∧ Q (.str (Txt.join a ys)) H
theorem m1 {r : V → List V → Hp → VK → Prop} (h : to σ H fun x H1 => (∃ a, x = .str a) ∧ te σ H1 fun y H2 => r x [y] H2 Q) : tM1 r to te σ H Q := h
theorem isS {z : Str} {A : Prop} (h : A) : (∃ a, V.str z = .str a) ∧ A := ⟨⟨z, rfl⟩, h⟩
theorem joinL_nil : ∀ ls : List (List Nat), joinL [] ls = ls.flatten
  | [] => rfl
  | [p] => by simp [joinL]
  | p :: q :: r => by
    show p ++ ([] ++ joinL [] (q :: r)) = _
    rw [joinL_nil (q :: r)]
    rfl
theorem sum_len : ∀ ls : List (List Nat), ((ls.map mkS).map (·.length)).sum = ls.flatten.length
  | [] => rfl
  | p :: r => by
    rw [List.map_cons, List.map_cons, List.sum_cons, sum_len r, mkS_len, List.flatten_cons, List.length_append]
/-- ''.join(xs) -/
theorem join0 {ls : List (List Nat)} {p : Addr} (e : SqL K H p ((ls.map mkS).map V.str)) (c : ls.flatten.length ≤ 16777216) (h : Q (.str (mkS ls.flatten)) H) : rJoin K (.str (mkS [])) [.ref p] H Q := by
  refine ⟨mkS [], p, ls.map mkS, rfl, rfl, .inl e, ?_, ?_⟩
  · rw [sum_len, mkS_len]
    simpa using c
  · rw [show Txt.join (mkS []) (ls.map mkS) = mkS ls.flatten from ?_]
    · exact h
    · refine ext_tl ?_
      rw [join_eq, tl_join, List.map_map]
      show joinL [] (ls.map (fun l => l)) = ls.flatten
      rw [List.map_id', joinL_nil]
end
section
variable {X : Cx} {o e : Expr} {to te : TE} {pos apos : Pos}
theorem pe_joinG (ho : PE X o to) (he : PE X e te) (hs : starEach [e] X.env = [(false, eval e X.env)] := by rfl) (hbase : attributeBase o "join" X.env (eval o X.env) = eval o X.env := by rfl) (hline : (apos.endLine == pos.line) = true := by rfl) :
    PE X (.Call (.Attribute o "join" apos) [e] [] pos) (tM1 (rJoin X.K) to te) := pe_join ho he hs hbase hline
end
end Gx
/-! ### nested data -/
namespace Gx
open PySem PySem.Spec PyProof.Rows L2
section
variable {K : PySem.W.Frag} {H H' : Hp}
theorem _root_.L2.Same.seqT {a : Addr} {xs : List V} (e : Same H H') (h : SqT K H a xs) : SqT K H' a xs := by
  rcases h with (h | ⟨o, h⟩) | h
  · exact .inl (.inl (e _ _ h))
  · exact .inl (.inr ⟨o, e _ _ h⟩)
  · exact .inr h
mutual
theorem dp_same (e : Same H H') : ∀ (d : PyData) (v : V), Dp K H v d → Dp K H' v d
  | .none, _, h => by cases h; exact .non
  | .bool _, _, h => by cases h; exact .bl _
  | .int _, _, h => by cases h; exact .int _
  | .str _, _, h => by cases h; exact .str _
  | .list ds, _, h => by
    cases h with
    | lst hs ha => exact .lst (e.seq hs) (dpAll_same e ds _ ha)
  | .tuple ds, _, h => by
    cases h with
    | tup hs ha => exact .tup (e.seqT hs) (dpAll_same e ds _ ha)
  | .dict _, _, h => by cases h
theorem dpAll_same (e : Same H H') : ∀ (ds : List PyData) (vs : List V), DpAll K H vs ds → DpAll K H' vs ds
  | [], _, h => by cases h; exact .nil
  | d :: ds, _, h => by
    cases h with
    | cons h1 h2 => exact .cons (dp_same e d _ h1) (dpAll_same e ds _ h2)
end
mutual
/-- no list within -/
def noL : PyData → Bool
  | .none | .bool _ | .int _ | .str _ => true
  | .tuple xs => noLs xs
  | .list _ | .dict _ => false
def noLs : List PyData → Bool
  | [] => true
  | x :: xs => noL x && noLs xs
end
/-- all tuples stay -/
def Tups (K : PySem.W.Frag) (H H' : Hp) : Prop := ∀ a xs, SqT K H a xs → SqT K H' a xs
theorem Tups.of (e : Same H H') : Tups K H H' := fun _ _ h => e.seqT h
theorem Tups.upd {p : Addr} {xs ys : List V} (h : H p = some (.lst xs)) : Tups K H (upd H p (.lst ys)) := fun a us q => by
  rcases q with (q | ⟨o, q⟩) | q
  · exact .inl (.inl (by rw [upd_ne (ne_of q h (by intro z; cases z))]; exact q))
  · exact .inl (.inr ⟨o, by rw [upd_ne (ne_of q h (by intro z; cases z))]; exact q⟩)
  · exact .inr q
mutual
theorem dp_tups (e : Tups K H H') : ∀ (d : PyData) (v : V), noL d = true → Dp K H v d → Dp K H' v d
  | .none, _, _, h => by cases h; exact .non
  | .bool _, _, _, h => by cases h; exact .bl _
  | .int _, _, _, h => by cases h; exact .int _
  | .str _, _, _, h => by cases h; exact .str _
  | .list ds, _, n, h => by simp [noL] at n
  | .tuple ds, _, n, h => by
    cases h with
    | tup hs ha => exact .tup (e _ _ hs) (dpAll_tups e ds _ (by simpa [noL] using n) ha)
  | .dict _, _, _, h => by cases h
theorem dpAll_tups (e : Tups K H H') : ∀ (ds : List PyData) (vs : List V), noLs ds = true → DpAll K H vs ds → DpAll K H' vs ds
  | [], _, _, h => by cases h; exact .nil
  | d :: ds, _, n, h => by
    have n' : noL d = true ∧ noLs ds = true := by simpa [noLs] using n
    cases h with
    | cons h1 h2 => exact .cons (dp_tups e d _ n'.1 h1) (dpAll_tups e ds _ n'.2 h2)
end
theorem dpAll_len : ∀ {vs : List V} {ds : List PyData}, DpAll K H vs ds → vs.length = ds.length
  | _, _, .nil => rfl
  | _, _, .cons _ t => by rw [List.length_cons, List.length_cons, dpAll_len t]
theorem dpAll_app : ∀ {vs ws : List V} {ds es : List PyData}, DpAll K H vs ds → DpAll K H ws es → DpAll K H (vs ++ ws) (ds ++ es)
  | _, _, _, _, .nil, h => h
  | _, _, _, _, .cons a t, h => .cons a (dpAll_app t h)
theorem dpAll_get : ∀ {vs : List V} {ds : List PyData} {i : Nat} {v : V}, DpAll K H vs ds → vs[i]? = some v → ∃ d, ds[i]? = some d ∧ Dp K H v d
  | _, _, _, _, .nil, h => by simp at h
  | _, _, 0, _, .cons a t, h => by
    simp at h
    subst h
    exact ⟨_, rfl, a⟩
  | _, _, i + 1, _, .cons a t, h => dpAll_get (i := i) t (by simpa using h)
theorem dpAll_ints : ∀ (ns : List Int), DpAll K H (ns.map V.int) (ns.map PyData.int)
  | [] => .nil
  | n :: r => .cons (.int n) (dpAll_ints r)
end
mutual
/-- what _law_kind tells of a datum -/
def kindD : PyData → PyData
  | .none => .tuple [.str (mkS [110, 111, 110, 101])]
  | .bool b => .tuple [.str (mkS [116, 114, 117, 116, 104]), .str (Str.ofString (if b then "True" else "False"))]
  | .int i => .tuple [.str (mkS [110, 117, 109, 98, 101, 114]), .int i]
  | .str x => .tuple [.str (mkS [116, 101, 120, 116]), .str x]
  | .list xs => .tuple (.str (mkS [108, 105, 115, 116]) :: kindAll xs)
  | .tuple xs => .tuple (.str (mkS [116, 117, 112, 108, 101]) :: kindAll xs)
  | .dict _ => .tuple [.str (mkS [111, 116, 104, 101, 114])]
def kindAll : List PyData → List PyData
  | [] => []
  | x :: xs => kindD x :: kindAll xs
end
theorem kindAll_app : ∀ xs ys : List PyData, kindAll (xs ++ ys) = kindAll xs ++ kindAll ys
  | [], _ => by simp [kindAll]
  | x :: xs, ys => by rw [List.cons_append, kindAll, kindAll, kindAll_app xs ys, List.cons_append]
theorem kindAll_len : ∀ xs : List PyData, (kindAll xs).length = xs.length
  | [] => rfl
  | x :: xs => by rw [kindAll, List.length_cons, List.length_cons, kindAll_len xs]
theorem kindAll_get : ∀ (xs : List PyData) (i : Nat), (kindAll xs)[i]? = xs[i]?.map kindD
  | [], i => by simp [kindAll]
  | x :: xs, 0 => by simp [kindAll]
  | x :: xs, i + 1 => by
    rw [kindAll]
    simpa using kindAll_get xs i
mutual
theorem noL_kind : ∀ d : PyData, noL (kindD d) = true
  | .none => rfl
  | .bool _ => rfl
  | .int _ => rfl
  | .str _ => rfl
  | .list xs => by simp only [kindD, noL, noLs, Bool.true_and]; exact noLs_kind xs
  | .tuple xs => by simp only [kindD, noL, noLs, Bool.true_and]; exact noLs_kind xs
  | .dict _ => rfl
theorem noLs_kind : ∀ ds : List PyData, noLs (kindAll ds) = true
  | [] => rfl
  | d :: ds => by rw [kindAll, noLs, noL_kind d, noLs_kind ds]; rfl
end
theorem noLs_take : ∀ (ds : List PyData) (i : Nat), noLs ds = true → noLs (ds.take i) = true
  | [], i, _ => by simp [noLs]
  | d :: ds, 0, _ => rfl
  | d :: ds, i + 1, h => by
    have h' : noL d = true ∧ noLs ds = true := by simpa [noLs] using h
    rw [List.take_succ_cons, noLs, h'.1, noLs_take ds i h'.2]
    rfl
mutual
/-- data that can be told and compared: texts of code points, no dict, lists of at most 100000 -/
def okD : PyData → Bool
  | .none | .bool _ | .int _ => true
  | .str x => PyData.strOk x
  | .list xs | .tuple xs => decide (xs.length ≤ 100000) && okDs xs
  | .dict _ => false
def okDs : List PyData → Bool
  | [] => true
  | x :: xs => okD x && okDs xs
end
theorem okDs_get : ∀ {xs : List PyData} {i : Nat} {d : PyData}, okDs xs = true → xs[i]? = some d → okD d = true
  | [], _, _, _, h => by simp at h
  | x :: xs, 0, _, k, h => by
    have k' : okD x = true ∧ okDs xs = true := by simpa [okDs] using k
    simp at h
    subst h
    exact k'.1
  | x :: xs, i + 1, _, k, h => by
    have k' : okD x = true ∧ okDs xs = true := by simpa [okDs] using k
    exact okDs_get (i := i) k'.2 (by simpa using h)
theorem depth_get : ∀ {xs : List PyData} {i : Nat} {d : PyData}, xs[i]? = some d → PyData.depth d ≤ PyData.depthAll xs
  | [], _, _, h => by simp at h
  | x :: xs, 0, _, h => by
    simp at h
    subst h
    exact Nat.le_max_left _ _
  | x :: xs, i + 1, d, h => by
    have := depth_get (xs := xs) (i := i) (d := d) (by simpa using h)
    exact Nat.le_trans this (Nat.le_max_right _ _)
mutual
theorem can_kind : ∀ d : PyData, okD d = true → PyData.canLay0 (kindD d) = true
  | .none, _ => by simp [kindD, PyData.canLay0, PyData.canLayAll0, PyData.strOk, mkS]
  | .bool b, _ => by cases b <;> (simp [kindD, PyData.canLay0, PyData.canLayAll0, PyData.strOk, mkS]; decide +kernel)
  | .int i, _ => by simp [kindD, PyData.canLay0, PyData.canLayAll0, PyData.strOk, mkS]
  | .str x, h => by
    have h' : PyData.strOk x = true := by simpa [okD] using h
    simp [kindD, PyData.canLay0, PyData.canLayAll0, h']
    simp [PyData.strOk, mkS]
  | .list xs, h => by
    have h' : xs.length ≤ 100000 ∧ okDs xs = true := by simpa [okD] using h
    simp only [kindD, PyData.canLay0, PyData.canLayAll0, can_kinds xs h'.2]
    simp [PyData.strOk, mkS]
  | .tuple xs, h => by
    have h' : xs.length ≤ 100000 ∧ okDs xs = true := by simpa [okD] using h
    simp only [kindD, PyData.canLay0, PyData.canLayAll0, can_kinds xs h'.2]
    simp [PyData.strOk, mkS]
  | .dict _, h => by simp [okD] at h
theorem can_kinds : ∀ ds : List PyData, okDs ds = true → PyData.canLayAll0 (kindAll ds) = true
  | [], _ => rfl
  | d :: ds, h => by
    have h' : okD d = true ∧ okDs ds = true := by simpa [okDs] using h
    simp only [kindAll, PyData.canLayAll0, can_kind d h'.1, can_kinds ds h'.2, Bool.and_self]
end
mutual
theorem depth_kind : ∀ d : PyData, PyData.depth (kindD d) ≤ PyData.depth d + 1
  | .none => by simp [kindD, PyData.depth, PyData.depthAll]
  | .bool _ => by simp [kindD, PyData.depth, PyData.depthAll]
  | .int _ => by simp [kindD, PyData.depth, PyData.depthAll]
  | .str _ => by simp [kindD, PyData.depth, PyData.depthAll]
  | .list xs => by
    have := depth_kinds xs
    simp only [kindD, PyData.depth, PyData.depthAll]
    omega
  | .tuple xs => by
    have := depth_kinds xs
    simp only [kindD, PyData.depth, PyData.depthAll]
    omega
  | .dict _ => by simp [kindD, PyData.depth, PyData.depthAll]
theorem depth_kinds : ∀ ds : List PyData, PyData.depthAll (kindAll ds) ≤ PyData.depthAll ds + 1
  | [] => by simp [kindAll, PyData.depthAll]
  | d :: ds => by
    have h1 := depth_kind d
    have h2 := depth_kinds ds
    simp only [kindAll, PyData.depthAll]
    omega
end
theorem shaped_kind {d : PyData} (h : okD d = true) (n : PyData.depth d ≤ 60) : SeqAt.shaped (kindD d) = true := by
  unfold SeqAt.shaped
  rw [can_kind d h, Bool.true_and]
  have := depth_kind d
  exact decide_eq_true (by omega)
theorem eqv_kind {d : PyData} (h : okD d = true) : PyData.eqv (kindD d) (kindD d) = true := SeqAt.eqv_refl _ (can_kind d h)
def rStrB : List V → Hp → VK → Prop := fun xs H Q => ∃ b, xs = [.bl b] ∧ Q (.str (Str.ofString (if b then "True" else "False"))) H
theorem cr_strB {X : Cx} : CallR X (.type "str") rStrB := by
  intro pins s σ H xs us Q I r h
  obtain ⟨b, rfl, q⟩ := h
  obtain ⟨u, rfl, r1⟩ := vals1 r
  cases r1
  refine PySem.P.str_of_bool ⟨.str _, H, I.tok _, ⟨_, rfl⟩, ?_⟩
  cases b <;> exact q
theorem strB {H : Hp} {Q : VK} {b : Bool} (h : Q (.str (Str.ofString (if b then "True" else "False"))) H) : rStrB [.bl b] H Q := ⟨b, rfl, h⟩
/-- tuple(a list) -/
def rTupL (K : PySem.W.Frag) : List V → Hp → VK → Prop := fun xs H Q => ∃ p ys, xs = [.ref p] ∧ ((SqL K H p ys ∧ ∀ l, H l = none → Q (.ref l) (upd H l (.tup ys))) ∨ (SqT K H p ys ∧ Q (.ref p) H))
theorem cr_tupL {X : Cx} : CallR X (.type "tuple") (rTupL X.K) := call_tuple_of
theorem tupL {K : PySem.W.Frag} {H : Hp} {Q : VK} {p : Addr} {ys : List V} (h : SqL K H p ys) (q : ∀ l, H l = none → Q (.ref l) (upd H l (.tup ys))) : rTupL K [.ref p] H Q := ⟨p, ys, rfl, .inl ⟨h, q⟩⟩
theorem tupT {K : PySem.W.Frag} {H : Hp} {Q : VK} {p : Addr} {ys : List V} (h : SqT K H p ys) (q : Q (.ref p) H) : rTupL K [.ref p] H Q := ⟨p, ys, rfl, .inr ⟨h, q⟩⟩
theorem catT {K : PySem.W.Frag} {H : Hp} {Q : VK} {a b : Addr} {xs ys : List V} (ha : SqT K H a xs) (hb : SqT K H b ys) (ne : xs ≠ []) (l : xs.length + ys.length ≤ 16777216) (q0 : ys = [] → Q (.ref a) H) (q : ys ≠ [] → ∀ p, H p = none → Q (.ref p) (upd H p (.tup (xs ++ ys)))) : rCatT K (.ref a) (.ref b) H Q :=
  ⟨a, b, xs, ys, rfl, rfl, ha, hb, ne, by rw [sizeLine_eq]; exact l, q0, q⟩
/-- (word,) + tuple(..): the two ways in one -/
theorem catT' {K : PySem.W.Frag} {H : Hp} {Q : VK} {a b : Addr} {xs ys : List V} (ha : SqT K H a xs) (hb : SqT K H b ys) (ne : xs ≠ []) (l : xs.length + ys.length ≤ 16777216) (q : ∀ p H', Same H H' → SqT K H' p (xs ++ ys) → Q (.ref p) H') : rCatT K (.ref a) (.ref b) H Q :=
  catT ha hb ne l (fun e => q a H (Same.refl H) (by rw [e, List.append_nil]; exact ha)) (fun _ p np => q p _ (ext1 np).same (SqT.of upd_same))
theorem atI_of {xs : List V} {i : Int} {k : Nat} {v : V} (e : i = k) (h : xs[k]? = some v) : atI xs i = some v := by rw [e]; exact atI_nat h
theorem cutV_A (l : List V) {j : Int} (h : 0 ≤ j) : cutV l none (some j) = l.take j.toNat := by
  unfold cutV
  rw [HT.sIx_none, sIx_int _ _ h, List.drop_zero, Nat.sub_zero, ← List.take_eq_take_min]
theorem cutV_B (l : List V) {i : Int} (h : 0 ≤ i) : cutV l (some i) none = l.drop i.toNat := by
  unfold cutV
  rw [HT.sIx_none, sIx_int _ _ h]
  rw [List.take_of_length_le (by rw [List.length_drop]; omega)]
  by_cases c : i.toNat ≤ l.length
  · rw [Nat.min_eq_left c]
  · rw [Nat.min_eq_right (by omega), List.drop_length, List.drop_eq_nil_of_le (by omega)]
theorem cutV_C (l : List V) {i j : Int} (h : 0 ≤ i) (h' : 0 ≤ j) : cutV l (some i) (some j) = (l.take j.toNat).drop i.toNat := by
  unfold cutV
  rw [sIx_int _ _ h, sIx_int _ _ h', List.drop_take]
  by_cases c : i.toNat ≤ l.length
  · rw [Nat.min_eq_left c]
    by_cases d : j.toNat ≤ l.length
    · rw [Nat.min_eq_left d]
    · rw [Nat.min_eq_right (by omega), List.take_of_length_le (by rw [List.length_drop]; omega), List.take_of_length_le (by rw [List.length_drop]; omega)]
  · rw [Nat.min_eq_right (a := i.toNat) (by omega), List.drop_length, List.drop_eq_nil_of_le (by omega)]
    simp
theorem dpAll_take {K : PySem.W.Frag} {H : Hp} : ∀ {vs : List V} {ds : List PyData} (n : Nat), DpAll K H vs ds → DpAll K H (vs.take n) (ds.take n)
  | _, _, 0, _ => .nil
  | _, _, _ + 1, .nil => .nil
  | _, _, n + 1, .cons a t => .cons a (dpAll_take n t)
theorem dpAll_drop {K : PySem.W.Frag} {H : Hp} : ∀ {vs : List V} {ds : List PyData} (n : Nat), DpAll K H vs ds → DpAll K H (vs.drop n) (ds.drop n)
  | _, _, 0, h => h
  | _, _, _ + 1, .nil => .nil
  | _, _, n + 1, .cons _ t => dpAll_drop n t
/-- a datum is appended -/
theorem dpAll_snoc {K : PySem.W.Frag} {H : Hp} {p : Addr} {vs : List V} {v : V} {ds : List PyData} {d : PyData} (e : H p = some (.lst vs)) (h : DpAll K H vs ds) (n : noLs ds = true) (hv : Dp K H v d) (nd : noL d = true) :
    DpAll K (upd H p (.lst (vs ++ [v]))) (vs ++ [v]) (ds ++ [d]) :=
  dpAll_app (dpAll_tups (Tups.upd e) _ _ n h) (.cons (dp_tups (Tups.upd e) _ _ nd hv) .nil)
/-- code points -/
def Cp (l : List Nat) : Prop := ∀ c ∈ l, c < 1114112
theorem Cp.app {a b : List Nat} (h : Cp a) (g : Cp b) : Cp (a ++ b) := fun c hc => (List.mem_append.mp hc).elim (h c) (g c)
theorem Cp.take {a : List Nat} (h : Cp a) (n : Nat) : Cp (a.take n) := fun c hc => h c (List.mem_of_mem_take hc)
theorem Cp.drop {a : List Nat} (h : Cp a) (n : Nat) : Cp (a.drop n) := fun c hc => h c (List.mem_of_mem_drop hc)
theorem Cp.ok {a : List Nat} (h : Cp a) : PyData.strOk (mkS a) = true := by
  unfold PyData.strOk mkS
  simp only [List.all_toArray, List.all_eq_true, decide_eq_true_eq]
  exact h
theorem Cp.okD {a : List Nat} (h : Cp a) : okD (.str (mkS a)) = true := by
  rw [Gx.okD]
  exact h.ok
theorem sortI {K : PySem.W.Frag} {H : Hp} {Q : VK} {a : Addr} {ns : List Int} (e : SqL K H a (ns.map V.int)) (h : ∀ (ns' : List Int) p H1, ns'.Perm ns → ns'.Pairwise (· ≤ ·) → Ext1 H H1 p (.lst (ns'.map V.int)) → Q (.ref p) H1) : rSortedI K [.ref a] H Q :=
  ⟨a, ns, rfl, e, fun ns' p pm pw np => h ns' p _ pm pw (ext1 np)⟩
end Gx
/-! ### dicts whose keys are nested tuples -/
namespace Gx
open PySem PySem.Spec PyProof.Rows L2
mutual
/-- the value v is the key k -/
inductive NV (H : Hp) : NestedKey → V → Prop
  | int (i : Int) : NV H (.num i) (.int i)
  | str (x : Str) : NV H (.text x) (.str x)
  | tup {b vs ks} : H b = some (.tup vs) → NVs H ks vs → NV H (.tup ks) (.ref b)
inductive NVs (H : Hp) : List NestedKey → List V → Prop
  | nil : NVs H [] []
  | cons {k v ks vs} : NV H k v → NVs H ks vs → NVs H (k :: ks) (v :: vs)
end
mutual
theorem NV.keeps {H H' : Hp} (t : ∀ b ys, H b = some (.tup ys) → H' b = some (.tup ys)) : ∀ (k : NestedKey) (v : V), NV H k v → NV H' k v
  | .none, _, h => nomatch h
  | .num i, _, h => by cases h; exact .int _
  | .text x, _, h => by cases h; exact .str _
  | .tup ks, _, h => by
    cases h with
    | tup h1 h2 => exact .tup (t _ _ h1) (NVs.keeps t ks _ h2)
theorem NVs.keeps {H H' : Hp} (t : ∀ b ys, H b = some (.tup ys) → H' b = some (.tup ys)) : ∀ (ks : List NestedKey) (vs : List V), NVs H ks vs → NVs H' ks vs
  | [], _, h => by cases h; exact .nil
  | k :: ks, _, h => by
    cases h with
    | cons h1 h2 => exact .cons (NV.keeps t k _ h1) (NVs.keeps t ks _ h2)
end
theorem NVs.ints {H : Hp} : ∀ l : List Int, NVs H (l.map .num) (l.map V.int)
  | [] => .nil
  | i :: l => .cons (.int i) (NVs.ints l)
mutual
theorem NV.is {P : Program} {w : World} {H : Hp} {h : Heap} (ok : HOk P w H h) : ∀ (k : NestedKey) (v : V) (u : Value), NV H k v → RelV v u → NestedIs h k u
  | .none, _, _, h, _ => nomatch h
  | .num i, _, _, h, r => by
    cases h
    obtain ⟨t, rfl⟩ := r
    exact .int _ _
  | .text x, _, _, h, r => by
    cases h
    obtain ⟨t, rfl⟩ := r
    exact .text _ _
  | .tup ks, _, _, h, r => by
    cases h with
    | tup h1 h2 =>
      obtain rfl := r
      obtain ⟨_, its, rv, o, e, hc, n, hd⟩ := ok _ _ h1
      exact .tup e hc hd (NVs.is ok ks _ _ h2 (by simpa using rv))
theorem NVs.is {P : Program} {w : World} {H : Hp} {h : Heap} (ok : HOk P w H h) : ∀ (ks : List NestedKey) (vs : List V) (us : List Value), NVs H ks vs → Vals vs us → NestedAll h ks us
  | [], _, _, h, r => by
    cases h
    cases r
    exact .nil
  | k :: ks, _, _, h, r => by
    cases h with
    | cons h1 h2 =>
      cases r with
      | cons r1 r2 => exact .cons (NV.is ok k _ _ h1 r1) (NVs.is ok ks _ _ h2 r2)
end
/-- an entry: key, the key's tuple, value -/
abbrev E3 := NestedKey × Addr × V
abbrev EV : List E3 → List (NestedKey × Addr × Value) → Prop := Paired fun p q => p.1 = q.1 ∧ p.2.1 = q.2.1 ∧ RelV p.2.2 q.2.2
/-- the dict's own object -/
def dnO (P : Program) (w : World) (a : Addr) (xs : List E3) (h : Heap) : Prop := xs.length ≤ sizeLine ∧ (a == sysModules) = false ∧ ∃ ys, EV xs ys ∧ ∃ o es ep, h.get? a = some o ∧ o.ExactDict ∧ o.data = .dict es ep ∧ es.toList = ys.map (entryOfKey (nestedKind P w)) ∧ (ys.map (·.1)).Nodup
def dnP (xs : List E3) : List (NestedKey × V) := xs.map fun x => (x.1, x.2.2)
/-- at a stands a dict with the keys and values kvs -/
def DN (P : Program) (w : World) (H : Hp) (a : Addr) (kvs : List (NestedKey × V)) : Prop := ∃ xs, H a = some (.ext (dnO P w a xs)) ∧ (∀ x ∈ xs, NV H x.1 (.ref x.2.1) ∧ x.1.depth ≤ 8) ∧ dnP xs = kvs
/-- y is the key k -/
def NK (H : Hp) (k : NestedKey) (y : V) : Prop := ∃ b, y = .ref b ∧ NV H k (.ref b) ∧ k.depth ≤ 8
theorem DN.keeps {P : Program} {w : World} {H H' : Hp} {a : Addr} {kvs : List (NestedKey × V)} (d : DN P w H a kvs) (t : ∀ b ys, H b = some (.tup ys) → H' b = some (.tup ys)) (e : H' a = H a) : DN P w H' a kvs :=
  let ⟨xs, h1, h2, h3⟩ := d
  ⟨xs, e.trans h1, fun x hx => ⟨NV.keeps t _ _ (h2 x hx).1, (h2 x hx).2⟩, h3⟩
theorem DN.same {P : Program} {w : World} {H H' : Hp} {a : Addr} {kvs : List (NestedKey × V)} (d : DN P w H a kvs) (s : Same H H') : DN P w H' a kvs :=
  let ⟨xs, h1, h2, h3⟩ := d
  ⟨xs, s _ _ h1, fun x hx => ⟨NV.keeps (fun _ _ q => s _ _ q) _ _ (h2 x hx).1, (h2 x hx).2⟩, h3⟩
theorem NK.same {H H' : Hp} {k : NestedKey} {y : V} (d : NK H k y) (s : Same H H') : NK H' k y :=
  let ⟨b, h1, h2, h3⟩ := d
  ⟨b, h1, NV.keeps (fun _ _ q => s _ _ q) _ _ h2, h3⟩
theorem ev_val {xs : List E3} {ys : List (NestedKey × Addr × Value)} (r : EV xs ys) (k : NestedKey) : RelO (valV (dnP xs) k) ((atKey ys k).map (·.2)) := by
  induction r with
  | nil => exact True.intro
  | @cons p q ps qs h t ih =>
    obtain ⟨h1, _, h2⟩ := h
    show RelO (valV ((p.1, p.2.2) :: dnP ps) k) _
    by_cases e : p.1 = k
    · have e' : q.1 = k := h1.symm.trans e
      have b : atKey (q :: qs) k = some q.2 := by simp [atKey, List.find?_cons, e']
      rw [valV_pos e, b]; exact h2
    · have e' : ¬ q.1 = k := fun z => e (h1.trans z)
      have b : atKey (q :: qs) k = atKey qs k := by simp [atKey, List.find?_cons, e']
      rw [valV_neg e, b]; exact ih
def put3 (k : NestedKey) (b : Addr) (v : V) (xs : List E3) : List E3 := if (valV (dnP xs) k).isSome then xs.map (fun x => if x.1 = k then (x.1, x.2.1, v) else x) else xs ++ [(k, b, v)]
theorem put3_p (k : NestedKey) (b : Addr) (v : V) (xs : List E3) : dnP (put3 k b v xs) = putK (dnP xs) k v := by
  unfold put3 putK
  rw [valV_any]
  split
  · unfold dnP
    rw [List.map_map, List.map_map]
    refine List.map_congr_left fun x _ => ?_
    simp only [Function.comp_apply]
    split <;> rfl
  · simp [dnP]
theorem ev_repl {xs : List E3} {ys : List (NestedKey × Addr × Value)} (r : EV xs ys) (k : NestedKey) {y : V} {u : Value} (ry : RelV y u) : EV (xs.map fun x => if x.1 = k then (x.1, x.2.1, y) else x) (ys.map (putAt k u)) := by
  induction r with
  | nil => exact .nil
  | @cons p q ps qs h t ih =>
    rw [List.map_cons, List.map_cons]
    refine .cons ?_ ih
    obtain ⟨h1, h2, h3⟩ := h
    unfold putAt
    by_cases e : p.1 = k
    · rw [if_pos e, if_pos (h1.symm.trans e)]; exact ⟨h1, h2, ry⟩
    · rw [if_neg e, if_neg (fun z => e (h1.trans z))]; exact ⟨h1, h2, h3⟩
theorem ev_put {xs : List E3} {ys : List (NestedKey × Addr × Value)} (r : EV xs ys) (k : NestedKey) {b : Addr} {y : V} {u : Value} (ry : RelV y u) : EV (put3 k b y xs) (storedH ys k b u) := by
  have e : (valV (dnP xs) k).isSome = (atKey ys k).isSome := by
    rw [(ev_val r k).isSome_eq, Option.isSome_map]
  unfold put3 storedH
  rw [e]
  by_cases q : (atKey ys k).isSome = true
  · rw [if_pos q, if_pos q]; exact ev_repl r k ry
  · rw [if_neg q, if_neg q]; exact Paired.snoc r ⟨rfl, rfl, ry⟩
section
variable {X : Cx} {pins : List (Addr × Obj)} {σ : L2.St} {H : Hp} {s : Shared} {a : Addr} {y v : V} {u r : Value} {A : Around} {E : Value → Shared → Prop} {kvs : List (NestedKey × V)} {k : NestedKey}
theorem ev_mem {xs : List E3} {ys : List (NestedKey × Addr × Value)} (r : EV xs ys) {φ : NestedKey → Addr → Prop} (h : ∀ x ∈ xs, φ x.1 x.2.1) : ∀ x ∈ ys, φ x.1 x.2.1 := by
  induction r with
  | nil => exact fun x hx => nomatch hx
  | @cons p q ps qs g t ih =>
    intro x hx
    rcases List.mem_cons.mp hx with rfl | hx
    · have := h p List.mem_cons_self
      rw [g.1, g.2.1] at this
      exact this
    · exact ih (fun x hx => h x (List.mem_cons_of_mem _ hx)) x hx
theorem nk_is (I : Inv X pins σ H s) (g : NK H k y) (ry : RelV y u) : ∃ b, u = .ref b ∧ (nestedKind X.prog X.w).is s.heap k b := by
  obtain ⟨b, rfl, h2, h3⟩ := g
  obtain rfl := ry
  exact ⟨b, rfl, NV.is I.hok _ _ _ h2 rfl, h3⟩
theorem dn_of (I : Inv X pins σ H s) {xs : List E3} (e : H a = some (.ext (dnO X.prog X.w a xs))) (g : ∀ x ∈ xs, NV H x.1 (.ref x.2.1) ∧ x.1.depth ≤ 8) : xs.length ≤ sizeLine ∧ (a == sysModules) = false ∧ ∃ ys, EV xs ys ∧ s.heap.DictOfH (nestedKind X.prog X.w) a ys := by
  obtain ⟨⟨z, hd, ys, ev, o, es, ep, h1, h2, h3, h4, h5⟩, _⟩ := I.hok _ _ e
  exact ⟨z, hd, ys, ev, o, es, ep, h1, h2, h3, h4, ev_mem ev (φ := fun k b => (nestedKind X.prog X.w).is s.heap k b) (fun x hx => ⟨NV.is I.hok _ _ _ (g x hx).1 rfl, (g x hx).2⟩), h5⟩
theorem n_room (hu : A.units + 64 < cLine) : (nestedKind X.prog X.w).room A.in1 := by
  show A.units + 1 + 8 < cLine
  omega
theorem n_getItem {Q : Value → Shared → Prop} (hu : A.units + 64 < cLine) (I : Inv X pins σ H s) (d : DN X.prog X.w H a kvs) (g : NK H k y) (hv : valV kvs k = some v) (ry : RelV y u) (h : ∀ w' s', Inv X pins σ H s' → RelV v w' → Q w' s') :
    wpAny (model X.prog X.w) A (getItem (.ref a) u) Q E s := by
  obtain ⟨xs, e, gx, rfl⟩ := d
  obtain ⟨b, rfl, kb⟩ := nk_is I g ry
  obtain ⟨z, hd, ys, ev, dd⟩ := dn_of I e gx
  obtain ⟨w', hw, rw'⟩ := RelO.some_of (v := v) (o := (atKey ys k).map (·.2)) (by rw [← hv]; exact ev_val ev k)
  obtain ⟨p, hp, hp2⟩ := Option.map_eq_some_iff.mp hw
  refine wpAny_getItem_heap (n_room (X := X) hu) kb dd hp ?_
  rw [hp2]
  exact h w' _ (I.tok _) rw'
theorem n_in {Q : Value → Shared → Prop} (hu : A.units + 64 < cLine) (I : Inv X pins σ H s) (d : DN X.prog X.w H a kvs) (g : NK H k y) (ry : RelV y u) (h : ∀ s', Inv X pins σ H s' → Q (.bool (valV kvs k).isSome) s') :
    wpAny (model X.prog X.w) A (compareOp .In u (.ref a)) Q E s := by
  obtain ⟨xs, e, gx, rfl⟩ := d
  obtain ⟨b, rfl, kb⟩ := nk_is I g ry
  obtain ⟨z, hd, ys, ev, dd⟩ := dn_of I e gx
  refine wpAny_in_heap (n_room (X := X) hu) kb hd dd ?_
  have q := (ev_val ev k).isSome_eq
  rw [Option.isSome_map] at q
  rw [← q]
  exact h _ (I.tok _)
theorem n_notIn {Q : Value → Shared → Prop} (hu : A.units + 64 < cLine) (I : Inv X pins σ H s) (d : DN X.prog X.w H a kvs) (g : NK H k y) (ry : RelV y u) (h : ∀ s', Inv X pins σ H s' → Q (.bool (!(valV kvs k).isSome)) s') :
    wpAny (model X.prog X.w) A (compareOp .NotIn u (.ref a)) Q E s := by
  obtain ⟨xs, e, gx, rfl⟩ := d
  obtain ⟨b, rfl, kb⟩ := nk_is I g ry
  obtain ⟨z, hd, ys, ev, dd⟩ := dn_of I e gx
  refine wpAny_notIn_heap (n_room (X := X) hu) kb hd dd ?_
  have q := (ev_val ev k).isSome_eq
  rw [Option.isSome_map] at q
  rw [← q]
  exact h _ (I.tok _)
theorem put3_len (k : NestedKey) (b : Addr) (v : V) (xs : List E3) : (put3 k b v xs).length ≤ xs.length + 1 := by
  unfold put3
  split
  · rw [List.length_map]; omega
  · rw [List.length_append, List.length_singleton]; omega
theorem put3_all {φ : NestedKey → Addr → Prop} {k : NestedKey} {b : Addr} {v : V} {xs : List E3} (h : ∀ x ∈ xs, φ x.1 x.2.1) (g : φ k b) : ∀ x ∈ put3 k b v xs, φ x.1 x.2.1 := by
  intro x hx
  unfold put3 at hx
  split at hx
  · obtain ⟨z, hz, rfl⟩ := List.mem_map.mp hx
    split
    · exact h z hz
    · exact h z hz
  · rcases List.mem_append.mp hx with hx | hx
    · exact h x hx
    · cases List.mem_singleton.mp hx
      exact g
theorem dnO_stay {P : Program} {w : World} {xs : List E3} (h1 h2 : Heap) (p : dnO P w a xs h1) (k : ∀ o, h1.get? a = some o → h2.get? a = some o) : dnO P w a xs h2 := by
  obtain ⟨z, hd, ys, ev, o, es, ep, e1, e2, e3, e4, e5⟩ := p
  exact ⟨z, hd, ys, ev, o, es, ep, k _ e1, e2, e3, e4, e5⟩
theorem n_setItem {Q : Unit → Shared → Prop} (hu : A.units + 64 < cLine) (I : Inv X pins σ H s) (d : DN X.prog X.w H a kvs) (g : NK H k y) (hl : kvs.length < sizeLine) (ry : RelV y u) (rv : RelV v r)
    (h : ∀ H' s', DN X.prog X.w H' a (putK kvs k v) → (∀ b, b ≠ a → H' b = H b) → Inv X pins σ H' s' → Q () s') : wpAny (model X.prog X.w) A (setItem (.ref a) u r) Q E s := by
  obtain ⟨xs, e, gx, rfl⟩ := d
  obtain ⟨b, ey, nb, hk8⟩ := id g
  obtain ⟨b', rfl, kb⟩ := nk_is I g ry
  subst ey
  obtain rfl : b' = b := by
    have : Value.ref b' = Value.ref b := ry
    injection this
  obtain ⟨z, hd, ys, ev, dd⟩ := dn_of I e gx
  have hlx : xs.length < sizeLine := by unfold dnP at hl; rwa [List.length_map] at hl
  have hz : ys.length ≤ sizeLine := by rw [← Paired.length ev]; exact z
  refine wpAny_setItem_heap (hsz := hz) (n_room (X := X) hu) kb dd fun h' dd' hs => ?_
  have tk : ∀ c zs, H c = some (.tup zs) → (upd H a (.ext (dnO X.prog X.w a (put3 k b' v xs)))) c = some (.tup zs) := fun c zs ec => by
    rw [upd_ne (ne_of ec e (fun z => nomatch z))]
    exact ec
  refine h (upd H a (.ext (dnO X.prog X.w a (put3 k b' v xs)))) _ ⟨_, upd_same, ?_, put3_p _ _ _ _⟩ (fun c hc => upd_ne hc) ?_
  · exact put3_all (φ := fun k b => NV _ k (.ref b) ∧ k.depth ≤ 8) (fun x hx => ⟨NV.keeps tk _ _ (gx x hx).1, (gx x hx).2⟩) ⟨NV.keeps tk _ _ nb, hk8⟩
  · obtain ⟨q, es, ep, hq, h2, h3, h4, _, h5⟩ := dd'
    have hlen := put3_len k b' v xs
    refine d_write I (by rw [e]; exact True.intro) hs ⟨q, hq⟩ ⟨⟨by omega, hd, _, ev_put ev k rv, q, es, ep, hq, h2, h3, h4, h5⟩, ⟨q, hq⟩, dnO_stay⟩
/-- {} -/
def tNNew (P : Program) (w : World) : TE := fun _ H Q => ∀ p H', H p = none → DN P w H' p [] → (∀ b, b ≠ p → H' b = H b) → Q (.ref p) H'
theorem pe_nnew {pos : Pos} : PE X (.Dict [] [] pos) (tNNew X.prog X.w) := ⟨fun pins s σ H Q I h => by
  have ok : dnO X.prog X.w s.heap.objs.size [] (s.heap.push { cls := .type "dict", data := .dict #[] }) :=
    ⟨Nat.zero_le _, beq_eq_false_iff_ne.mpr (Ne.symm (Nat.ne_of_lt I.big)), [], .nil, _, #[], 0, Heap.get?_push_size _ rfl, ⟨rfl, rfl, rfl⟩, rfl, rfl, List.nodup_nil⟩
  refine wpAny_Dict_empty ⟨.ref s.heap.objs.size, upd H s.heap.objs.size (.ext (dnO X.prog X.w s.heap.objs.size [])), I.laid (t' := s.toks) (fun _ _ q => Heap.get?_push_of_some _ q) (Nat.le_refl _) ⟨ok, ⟨_, Heap.get?_push_size _ rfl⟩, dnO_stay⟩, rfl, ?_⟩
  exact h _ _ (I.hok.fresh (Nat.le_refl _)) ⟨[], upd_same, (fun x hx => nomatch hx), rfl⟩ fun b hb => upd_ne hb⟩
def tNGet (P : Program) (w : World) (td ty : TE) : TE := fun σ H Q => td σ H fun x H1 => ty σ H1 fun y H2 => ∃ a kvs k v, x = .ref a ∧ DN P w H2 a kvs ∧ NK H2 k y ∧ valV kvs k = some v ∧ Q v H2
def tNIn (P : Program) (w : World) (ty td : TE) : TE := fun σ H Q => ty σ H fun y H1 => td σ H1 fun x H2 => ∃ a kvs k, x = .ref a ∧ DN P w H2 a kvs ∧ NK H2 k y ∧ Q (.bl (valV kvs k).isSome) H2
def tNNotIn (P : Program) (w : World) (ty td : TE) : TE := fun σ H Q => ty σ H fun y H1 => td σ H1 fun x H2 => ∃ a kvs k, x = .ref a ∧ DN P w H2 a kvs ∧ NK H2 k y ∧ Q (.bl (!(valV kvs k).isSome)) H2
def sNPut (P : Program) (w : World) (td ty tv : TE) : TS := fun D σ H => tv σ H fun v H1 => td σ H1 fun x H2 => ty σ H2 fun y H3 => ∃ a kvs k, x = .ref a ∧ DN P w H3 a kvs ∧ NK H3 k y ∧ kvs.length < sizeLine ∧ ∀ H4, DN P w H4 a (putK kvs k v) → (∀ b, b ≠ a → H4 b = H3 b) → D.nx σ H4
variable {o i e value : Expr} {pos pos' tpos : Pos} {td ty tv : TE}
theorem dn_typeIs (I : Inv X pins σ H s) (d : DN X.prog X.w H a kvs) : s.TypeIs (.ref a) "dict" := by
  obtain ⟨xs, e, gx, rfl⟩ := d
  obtain ⟨z, hd, ys, ev, dd⟩ := dn_of I e gx
  exact dd.typeIs
theorem pe_nget (hu : X.A.units + 64 < cLine) (ho : PE X o td) (hi : PE X i ty) (hs : NoSl i) : PE X (.Subscript o i pos) (tNGet X.prog X.w td ty) := by
  refine ⟨fun pins s σ H Q I h => ?_⟩
  refine subD_of PySem.F.slot_dict_getitem.lookup hs (thn (ho.run pins s σ H _ I h) fun u s1 ⟨x, H1, I1, rx, q1⟩ => thn (hi.run pins s1 σ H1 _ I1 q1) fun iv s2 ⟨y, H2, I2, ry, a, kvs, k, v, ex, d, g, hv, q2⟩ => ?_)
  subst ex
  obtain rfl : u = Value.ref a := rx
  exact ⟨dn_typeIs I2 d, n_getItem hu I2 d g hv ry fun w' s3 I3 rw' => ⟨v, H2, I3, rw', q2⟩⟩
theorem pc_nin (hu : X.A.units + 64 < cLine) (hi : PE X i ty) (ho : PE X o td) : PC X .In i o (tNIn X.prog X.w ty td) := by
  refine ⟨fun pins s σ H Q I h => ?_⟩
  refine thn (hi.run pins s σ H _ I h) fun iv s1 ⟨y, H1, I1, ry, q1⟩ => thn (ho.run pins s1 σ H1 _ I1 q1) fun u s2 ⟨x, H2, I2, rx, a, kvs, k, ex, d, g, q2⟩ => ?_
  subst ex
  obtain rfl : u = Value.ref a := rx
  exact n_in hu I2 d g ry fun s3 I3 => ⟨.bl (valV kvs k).isSome, H2, I3, rfl, q2⟩
theorem pc_nnotin (hu : X.A.units + 64 < cLine) (hi : PE X i ty) (ho : PE X o td) : PC X .NotIn i o (tNNotIn X.prog X.w ty td) := by
  refine ⟨fun pins s σ H Q I h => ?_⟩
  refine thn (hi.run pins s σ H _ I h) fun iv s1 ⟨y, H1, I1, ry, q1⟩ => thn (ho.run pins s1 σ H1 _ I1 q1) fun u s2 ⟨x, H2, I2, rx, a, kvs, k, ex, d, g, q2⟩ => ?_
  subst ex
  obtain rfl : u = Value.ref a := rx
  exact n_notIn hu I2 d g ry fun s3 I3 => ⟨.bl (!(valV kvs k).isSome), H2, I3, rfl, q2⟩
theorem ps_nput (hu : X.A.units + 64 < cLine) (ho : PE X o td) (hi : PE X i ty) (hv : PE X value tv) (hs : swapsWith value (some (.Subscript o i pos')) pos.line X.env = pure false) :
    PS X (.Assign [.Subscript o i pos'] value pos) (sNPut X.prog X.w td ty tv) := by
  refine ⟨fun pins s σ H D I h => ?_⟩
  refine wpAny_Assign_Subscript (thn (hv.run pins s σ H _ I h) fun r s1 ⟨v, H1, I1, rv, q1⟩ => thn (ho.run pins s1 σ H1 _ I1 q1) fun u s2 ⟨x, H2, I2, rx, q2⟩ => thn (hi.run pins s2 σ H2 _ I2 q2) fun iv s3 ⟨y, H3, I3, ry, a, kvs, k, ex, d, g, hl, q3⟩ => ?_) hs
  subst ex
  obtain rfl : u = Value.ref a := rx
  exact n_setItem hu I3 d g hl ry rv fun H4 s4 d4 k4 I4 => ⟨σ, H4, I4, q3 H4 d4 k4⟩
/-- len(d) -/
def rLenN (P : Program) (w : World) : List V → Hp → VK → Prop := fun xs H Q => ∃ p kvs, xs = [.ref p] ∧ DN P w H p kvs ∧ Q (.int ((kvs.length : Nat) : Int)) H
theorem cr_lenN {X : Cx} : CallR X (.builtin "len") (rLenN X.prog X.w) := by
  intro pins s σ H xs us Q I r h
  obtain ⟨p, kvs, rfl, ⟨xs, e, gx, rfl⟩, q⟩ := h
  obtain ⟨u, rfl, r1⟩ := vals1 r
  obtain rfl : u = Value.ref p := r1
  obtain ⟨z, hd, ys, ev, dd⟩ := dn_of I e gx
  refine call_len_dictH hd dd ?_ ?_
  · rw [← Paired.length ev]
    have : sizeLine < 2 ^ 62 := by rw [sizeLine_eq]; decide
    omega
  · have el : ys.length = (dnP xs).length := by unfold dnP; rw [List.length_map, Paired.length ev]
    rw [el]
    exact ⟨.int ((dnP xs).length : Nat), H, I.tok _, ⟨_, rfl⟩, q⟩
end
end Gx
/-! ### dicts, sequences that are lists or tuples, while -/
namespace Gx
open PySem PySem.Spec PyProof.Rows L2
theorem hu1 {A : Around} (h : A.units + 64 < cLine) : A.units + 1 < cLine := by omega
/-- a list or a tuple -/
def Sq (K : PySem.W.Frag) (H : Hp) (a : Addr) (xs : List V) : Prop := SqL K H a xs ∨ SqT K H a xs
theorem Sq.same {K : PySem.W.Frag} {H H' : Hp} {a : Addr} {xs : List V} (h : Sq K H a xs) (e : Same H H') : Sq K H' a xs := h.elim (fun z => .inl (e.seq z)) fun z => .inr (e.seqT z)
/-- walked, a list or a tuple -/
def iSq (K : PySem.W.Frag) (tl : TE) : TI := fun σ H R => tl σ H fun x H1 => ∃ a, x = .ref a ∧ (((∃ xs, SqL K H1 a xs) ∧ R (Itl K a) H1) ∨ ((∃ xs, SqT K H1 a xs) ∧ R (Itt K a) H1))
theorem pi_seq {X : Cx} {tg l : Expr} {tl : TE} (hl : PE X l tl) : PI X tg l (iSq X.K tl) := by
  refine ⟨fun pins s σ H R I h => ?_⟩
  refine thn (hl.run pins s σ H _ I h) fun v s1 ⟨x, H1, I1, r1, q1⟩ => ?_
  obtain ⟨a, e, q⟩ := q1
  subst e
  cases r1
  rcases q with ⟨⟨xs, hq⟩, q⟩ | ⟨⟨xs, hq⟩, q⟩
  · obtain ⟨its, rv, p, hz⟩ := I1.list hq
    refine wpAny_pyIter_list p.isList ?_
    refine ⟨s1.heap.objs.size, [s1.heap.objs.size], _, _, H1, rfl, I1.kept (t' := s1.toks) fun b o e => Heap.get?_push_of_some _ e, turn_list a _, ⟨_, Heap.get?_push_size _ rfl, rfl, rfl⟩, fun b hb => ?_, q⟩
    have e : b = s1.heap.objs.size := by simpa using hb
    subst e
    exact I1.fpOk (Nat.le_refl _) (I1.hok.fresh (Nat.le_refl _))
  · obtain ⟨its, rv, p, hz⟩ := I1.tuple hq
    refine wpAny_pyIter_tuple (show s1.heap.IsTuple a its.toArray from p) ?_
    refine ⟨s1.heap.objs.size, [s1.heap.objs.size], _, _, H1, rfl, I1.kept (t' := s1.toks) fun b o e => Heap.get?_push_of_some _ e, turn_tuple a _, ⟨_, Heap.get?_push_size _ rfl, rfl, rfl⟩, fun b hb => ?_, q⟩
    have e : b = s1.heap.objs.size := by simpa using hb
    subst e
    exact I1.fpOk (Nat.le_refl _) (I1.hok.fresh (Nat.le_refl _))
section
variable {σ : L2.St} {H : Hp} {Q : VK} {D : Ends} {td ty tv tk : TE} {K : PySem.W.Frag} {P : Program} {w : World}
theorem isq {R : It → Hp → Prop} (h : td σ H fun x H1 => ∃ a, x = .ref a ∧ (((∃ xs, SqL K H1 a xs) ∧ R (Itl K a) H1) ∨ ((∃ xs, SqT K H1 a xs) ∧ R (Itt K a) H1))) : iSq K td σ H R := h
theorem for_sq {H0 : Hp} {a : Addr} {xs : List V} {g : TG} {tb : TS} (Pv : Nat → L2.St → Hp → Prop) (hq : Sq K H0 a xs) (h0 : Pv 0 σ H) (hl : ∀ i σ H', i ≤ xs.length → Pv i σ H' → Same H0 H')
    (hs : ∀ i x σ H, xs[i]? = some x → Pv i σ H → g x σ H fun σ2 H2 => tb { D with nx := Pv (i + 1), ct := Pv (i + 1), bk := D.nx } σ2 H2) (hd : ∀ σ H, Pv xs.length σ H → D.nx σ H) :
    (((∃ xs, SqL K H a xs) ∧ ∃ W : Nat → Nat → L2.St → Hp → Prop, (∃ m, W 0 m σ H) ∧ ∀ i m σ H, W i m σ H →
      ((Itl K a).stop i H ∧ D.nx σ H) ∨ ((Itl K a).go i H ∧ ∃ N : L2.St → Hp → Prop, (∀ σ' H', N σ' H' → ∃ m', m' < m ∧ W (i + 1) m' σ' H') ∧ ∀ x H', (Itl K a).yld i H x H' → g x σ H' fun σ2 H2 => tb { D with nx := N, ct := N, bk := D.nx } σ2 H2))
    ∨ ((∃ xs, SqT K H a xs) ∧ ∃ W : Nat → Nat → L2.St → Hp → Prop, (∃ m, W 0 m σ H) ∧ ∀ i m σ H, W i m σ H →
      ((Itt K a).stop i H ∧ D.nx σ H) ∨ ((Itt K a).go i H ∧ ∃ N : L2.St → Hp → Prop, (∀ σ' H', N σ' H' → ∃ m', m' < m ∧ W (i + 1) m' σ' H') ∧ ∀ x H', (Itt K a).yld i H x H' → g x σ H' fun σ2 H2 => tb { D with nx := N, ct := N, bk := D.nx } σ2 H2))) := by
  rcases hq with hq | hq
  · exact .inl ⟨⟨_, (hl 0 σ H (Nat.zero_le _) h0).seq hq⟩, for_list Pv h0 (fun i σ H' hi p => (hl i σ H' hi p).seq hq) hs hd⟩
  · exact .inr ⟨⟨_, (hl 0 σ H (Nat.zero_le _) h0).seqT hq⟩, for_tup Pv h0 (fun i σ H' hi p => (hl i σ H' hi p).seqT hq) hs hd⟩
theorem lc_sq {a : Addr} {xs : List V} {g : TG} {tt : TT} {te : TE} {vs : List Nat} {Qd : Addr → Hp → Prop} (hq : Sq K H a xs) (hne : ∀ D, H D = none →
    ∃ Pv : Nat → Hp → Prop, Pv 0 (upd H D (.lst [])) ∧ (∀ i H', i ≤ xs.length → Pv i H' → Same H H') ∧
    (∀ i x H, xs[i]? = some x → Pv i H → g x (wipe σ vs) H fun σ2 H2 => wipe σ2 vs = wipe σ vs ∧ tt σ2 H2 fun b H3 =>
      if b = true then te σ2 H3 fun y H4 => ∃ acc, H4 D = some (.lst acc) ∧ acc.length < sizeLine ∧ Pv (i + 1) (upd H4 D (.lst (acc ++ [y]))) else Pv (i + 1) H3) ∧ (∀ H, Pv xs.length H → Qd D H)) :
    (((∃ xs, SqL K H a xs) ∧ ∀ D, H D = none → ∃ W : Nat → Nat → Hp → Prop, (∃ m, W 0 m (upd H D (.lst []))) ∧ ∀ i m H, W i m H →
      ((Itl K a).stop i H ∧ Qd D H) ∨ ((Itl K a).go i H ∧ ∃ Nx : Hp → Prop, (∀ H', Nx H' → ∃ m', m' < m ∧ W (i + 1) m' H') ∧ ∀ x H', (Itl K a).yld i H x H' → g x (wipe σ vs) H' fun σ2 H2 => wipe σ2 vs = wipe σ vs ∧ tt σ2 H2 fun b H3 =>
        if b = true then te σ2 H3 fun y H4 => ∃ acc, H4 D = some (.lst acc) ∧ acc.length < sizeLine ∧ Nx (upd H4 D (.lst (acc ++ [y]))) else Nx H3))
    ∨ ((∃ xs, SqT K H a xs) ∧ ∀ D, H D = none → ∃ W : Nat → Nat → Hp → Prop, (∃ m, W 0 m (upd H D (.lst []))) ∧ ∀ i m H, W i m H →
      ((Itt K a).stop i H ∧ Qd D H) ∨ ((Itt K a).go i H ∧ ∃ Nx : Hp → Prop, (∀ H', Nx H' → ∃ m', m' < m ∧ W (i + 1) m' H') ∧ ∀ x H', (Itt K a).yld i H x H' → g x (wipe σ vs) H' fun σ2 H2 => wipe σ2 vs = wipe σ vs ∧ tt σ2 H2 fun b H3 =>
        if b = true then te σ2 H3 fun y H4 => ∃ acc, H4 D = some (.lst acc) ∧ acc.length < sizeLine ∧ Nx (upd H4 D (.lst (acc ++ [y]))) else Nx H3))) := by
  rcases hq with hq | hq
  · refine .inl ⟨⟨_, hq⟩, fun D nD => ?_⟩
    obtain ⟨Pv, h0, hl, hs, hd⟩ := hne D nD
    exact lc_list Pv h0 (fun i H' hi p => (hl i H' hi p).seq hq) hs hd
  · refine .inr ⟨⟨_, hq⟩, fun D nD => ?_⟩
    obtain ⟨Pv, h0, hl, hs, hd⟩ := hne D nD
    exact lc_tup Pv h0 (fun i H' hi p => (hl i H' hi p).seqT hq) hs hd
theorem ixQ {p : Addr} {xs : List V} {i : Int} {k : Nat} {v : V} (c : Sq K H p xs) (e : i = k) (a : xs[k]? = some v) (h : Q v H) : rIx K (.ref p) (.int i) H Q :=
  c.elim (fun z => .inl ⟨p, xs, i, v, rfl, rfl, z, atI_of e a, h⟩) fun z => .inr (.inl ⟨p, xs, i, v, rfl, rfl, z, atI_of e a, h⟩)
theorem lenQ {p : Addr} {xs : List V} (c : Sq K H p xs) (h : Q (.int xs.length) H) : rLenQ K [.ref p] H Q := c.elim (fun z => lenL z h) fun z => lenT z h
theorem din (h : ty σ H fun y H1 => td σ H1 fun x H2 => ∃ a o, x = .ref a ∧ DGet H2 a y o ∧ Q (.bl o.isSome) H2) : tDIn ty td σ H Q := h
theorem dnotin (h : ty σ H fun y H1 => td σ H1 fun x H2 => ∃ a o, x = .ref a ∧ DGet H2 a y o ∧ Q (.bl (!o.isSome)) H2) : tDNotIn ty td σ H Q := h
theorem dget (h : td σ H fun x H1 => ty σ H1 fun y H2 => ∃ a v, x = .ref a ∧ DGet H2 a y (some v) ∧ Q v H2) : tDGet td ty σ H Q := h
theorem dput (h : tv σ H fun v H1 => td σ H1 fun x H2 => ty σ H2 fun y H3 => ∃ a H4, x = .ref a ∧ DPut H3 a y v H4 ∧ D.nx σ H4) : sDPut td ty tv D σ H := h
theorem dnewK (h : ∀ p, H p = none → Q (.ref p) (upd H p (.dK []))) : tDNewK σ H Q := h
theorem disp1 (h : ∀ p, H p = none → tk σ (upd H p (.dK [])) fun x H1 => tv σ H1 fun y H2 => H2 p = some (.dK []) ∧ ∃ kvs : List (Key × V), [(x, y)] = kvs.map (fun kv => (kV kv.1, kv.2)) ∧ kvs.length ≤ 15 ∧ Q (.ref p) (upd H2 p (.dK (mergeK [] kvs)))) : tDisp [(tk, tv)] σ H Q := h
theorem nin (h : ty σ H fun y H1 => td σ H1 fun x H2 => ∃ a kvs k, x = .ref a ∧ DN P w H2 a kvs ∧ NK H2 k y ∧ Q (.bl (valV kvs k).isSome) H2) : tNIn P w ty td σ H Q := h
theorem nnotin (h : ty σ H fun y H1 => td σ H1 fun x H2 => ∃ a kvs k, x = .ref a ∧ DN P w H2 a kvs ∧ NK H2 k y ∧ Q (.bl (!(valV kvs k).isSome)) H2) : tNNotIn P w ty td σ H Q := h
theorem nget (h : td σ H fun x H1 => ty σ H1 fun y H2 => ∃ a kvs k v, x = .ref a ∧ DN P w H2 a kvs ∧ NK H2 k y ∧ valV kvs k = some v ∧ Q v H2) : tNGet P w td ty σ H Q := h
theorem nput (h : tv σ H fun v H1 => td σ H1 fun x H2 => ty σ H2 fun y H3 => ∃ a kvs k, x = .ref a ∧ DN P w H3 a kvs ∧ NK H3 k y ∧ kvs.length < sizeLine ∧ ∀ H4, DN P w H4 a (putK kvs k v) → (∀ b, b ≠ a → H4 b = H3 b) → D.nx σ H4) : sNPut P w td ty tv D σ H := h
theorem nnew (h : ∀ p H', H p = none → DN P w H' p [] → (∀ b, b ≠ p → H' b = H b) → Q (.ref p) H') : tNNew P w σ H Q := h
theorem dc {wi : TI} {g : TG} {tt : TT} {vs : List Nat} (h : wi σ H fun J H1 => ∀ D, H1 D = none → ∃ W : Nat → Nat → Hp → Prop, (∃ m, W 0 m (upd H1 D (.dK []))) ∧ ∀ i m H, W i m H →
  (J.stop i H ∧ Q (.ref D) H) ∨ (J.go i H ∧ ∃ Nx : Hp → Prop, (∀ H', Nx H' → ∃ m', m' < m ∧ W (i + 1) m' H') ∧ ∀ x H', J.yld i H x H' → g x (wipe σ vs) H' fun σ2 H2 => wipe σ2 vs = wipe σ vs ∧ tt σ2 H2 fun b H3 =>
    if b = true then tk σ2 H3 fun y H4 => tv σ2 H4 fun z H5 => ∃ kvs k, y = kV k ∧ H5 D = some (.dK kvs) ∧ kvs.length < sizeLine ∧ Nx (upd H5 D (.dK (putK kvs k z))) else Nx H3)) : tDc wi g tt tk tv vs σ H Q := h
theorem wh {c : TT} {tb : TS} {W : Nat → L2.St → Hp → Prop} {m0 : Nat} (h0 : W m0 σ H) (hs : ∀ m σ H, W m σ H → c σ H fun b H1 => if b = true then ∃ N : L2.St → Hp → Prop, (∀ σ' H', N σ' H' → ∃ m', m' < m ∧ W m' σ' H') ∧ tb { D with nx := N, ct := N, bk := D.nx } σ H1 else D.nx σ H1) : tWhile c tb D σ H := ⟨W, ⟨m0, h0⟩, hs⟩
/-- bool(x) -/
def rBool1 : List V → Hp → VK → Prop := fun xs H Q => (∃ i, xs = [.int i] ∧ Q (.bl (i != 0)) H) ∨ ∃ k, xs = [.bl k] ∧ Q (.bl k) H
theorem cr_bool1 {X : Cx} : CallR X (.type "bool") rBool1 := call_bool1
theorem boolB {b : Bool} (h : Q (.bl b) H) : rBool1 [.bl b] H Q := .inr ⟨b, rfl, h⟩
theorem intB {b : Bool} (h : Q (.int (if b then 1 else 0)) H) : rInt1 [.bl b] H Q := .inr ⟨b, rfl, h⟩
/-- the dict at d holds at each s of o the number f s -/
def DM (H : Hp) (d : Addr) (n : Nat) (o : List Nat) (f : Nat → Nat) : Prop := ∃ kvs : List (Key × V), H d = some (.dK kvs) ∧ kvs.length ≤ n ∧ ∀ s ∈ o, valV kvs (.inl (s : Nat)) = some (.int (f s : Nat))
theorem DM.same {H H' : Hp} {d : Addr} {n : Nat} {o : List Nat} {f : Nat → Nat} (h : DM H d n o f) (e : Same H H') : DM H' d n o f := let ⟨kvs, a, b, c⟩ := h; ⟨kvs, e _ _ a, b, c⟩
end
end Gx
namespace Gx
open PySem PySem.Spec PyProof.Rows L2
/-- a dict made over a list that stays -/
theorem dc_list {K : PySem.W.Frag} {H0 : Hp} {a : Addr} {xs : List V} {g : TG} {tt : TT} {tk tv : TE} {vs : List Nat} {σ : L2.St} {H1 : Hp} {D : Addr} {Qd : Hp → Prop} (Pv : Nat → Hp → Prop) (hq : SqL K H0 a xs) (h0 : Pv 0 (upd H1 D (.dK []))) (hl : ∀ i H, i ≤ xs.length → Pv i H → Same H0 H)
    (hs : ∀ i x H, xs[i]? = some x → Pv i H → g x (wipe σ vs) H fun σ2 H2 => wipe σ2 vs = wipe σ vs ∧ tt σ2 H2 fun b H3 =>
      if b = true then tk σ2 H3 fun y H4 => tv σ2 H4 fun z H5 => ∃ kvs k, y = kV k ∧ H5 D = some (.dK kvs) ∧ kvs.length < sizeLine ∧ Pv (i + 1) (upd H5 D (.dK (putK kvs k z))) else Pv (i + 1) H3) (hd : ∀ H, Pv xs.length H → Qd H) :
    ∃ W : Nat → Nat → Hp → Prop, (∃ m, W 0 m (upd H1 D (.dK []))) ∧ ∀ i m H, W i m H →
      ((Itl K a).stop i H ∧ Qd H) ∨ ((Itl K a).go i H ∧ ∃ Nx : Hp → Prop, (∀ H', Nx H' → ∃ m', m' < m ∧ W (i + 1) m' H') ∧ ∀ x H', (Itl K a).yld i H x H' → g x (wipe σ vs) H' fun σ2 H2 => wipe σ2 vs = wipe σ vs ∧ tt σ2 H2 fun b H3 =>
        if b = true then tk σ2 H3 fun y H4 => tv σ2 H4 fun z H5 => ∃ kvs k, y = kV k ∧ H5 D = some (.dK kvs) ∧ kvs.length < sizeLine ∧ Nx (upd H5 D (.dK (putK kvs k z))) else Nx H3) := by
  refine ⟨fun i m H => m + i = xs.length ∧ Pv i H, ⟨xs.length, rfl, h0⟩, ?_⟩
  rintro i m H ⟨hm, p⟩
  have q := (hl i H (by omega) p).seq hq
  cases m with
  | zero =>
    have e : i = xs.length := by omega
    subst e
    exact .inl ⟨⟨xs, q, Nat.le_refl _⟩, hd H p⟩
  | succ m =>
    have hlt : i < xs.length := by omega
    refine .inr ⟨⟨xs, xs[i], q, List.getElem?_eq_getElem hlt⟩, Pv (i + 1), fun H' p' => ⟨m, Nat.lt_succ_self m, by omega, p'⟩, ?_⟩
    rintro x H' ⟨rfl, y⟩
    exact hs i x _ (y xs q) p
end Gx
namespace Gx
open PySem PySem.Spec PyProof.Rows L2
section
variable {X : Cx}
theorem sw_dict {kx vx : Expr} {gs : List Comprehension} {scope : Scope} {pos py : Pos} {y : Str} {l : Nat} {env : Env} (hk : env.scope.kind = .function) (hy : env.scope.names.lookup y = some .local) (hl : (py.line == pos.line) = true)
    (ha : (scope.names.any fun (n, k) => n == y && (k == .local || k == .cell)) = false) : swapsWith (.DictComp kx vx gs scope pos) (some (.Name y py)) l env = pure true := by
  have ky : env.kindOf y = some .local := hy
  have hb : env.blockKind = .function := by unfold Env.blockKind; rw [hk]; rfl
  unfold swapsWith
  simp only [hb, ky, ha, Expr.pos, hl]
  rfl
/-- name = {k: v for ..} on one line, the name a local -/
theorem ps_setDc {i : Nat} {y : Str} {py : Pos} {kx vx tg iter : Expr} {ifs : List Expr} {scope : Scope} {own : List (Str × Nat)} {pos spos : Pos} {wi : TI} {g : TG} {tt : TT} {tk tv : TE} (hc : X.calm = true) (hN : X.N.Nodup) (hy : X.N[i]? = some y) (hyl : X.env.scope.names.lookup y = some .local)
    (hsw : swapsWith (.DictComp kx vx [⟨tg, iter, ifs, 0⟩] scope pos) (some (.Name y py)) spos.line X.env = pure true) (hi : PI X tg iter wi) (ok : BlkOk X.N X.env.scope scope own)
    (hg : ∀ (s : Shared) (H : Hp) (C : Addr) (cl : List (Str × Addr)) (fp : List Addr), PG (X.blk s H scope (compEnvC scope cl C X.env) fp) tg g) (ht : ∀ (s : Shared) (H : Hp) (C : Addr) (cl : List (Str × Addr)) (fp : List Addr), PTs (X.blk s H scope (compEnvC scope cl C X.env) fp) ifs tt)
    (hk : ∀ (s : Shared) (H : Hp) (C : Addr) (cl : List (Str × Addr)) (fp : List Addr), PE (X.blk s H scope (compEnvC scope cl C X.env) fp) kx tk)
    (he : ∀ (s : Shared) (H : Hp) (C : Addr) (cl : List (Str × Addr)) (fp : List Addr), PE (X.blk s H scope (compEnvC scope cl C X.env) fp) vx tv) (hs : ∀ x, foldedSetIterable iter X.env x = pure x := by intro _; rfl) :
    PS X (.Assign [.Name y py] (.DictComp kx vx [⟨tg, iter, ifs, 0⟩] scope pos) spos) (tAsg (tDc wi g tt tk tv (own.map (·.2))) (gName i)) := by
  refine ⟨fun pins s σ H D I h => ?_⟩
  rw [exec_Assign_Name_used _ _ _ _ hsw]
  refine wpAny_bind (wpAny_standAt (wpAny_bind ?_))
  show wpAny _ X.A (do let _ ← comprehension (.DictComp kx vx [⟨tg, iter, ifs, 0⟩] scope pos) scope X.env _ newDict false (eval iter X.env) (some (assign (.Name y py) X.env))) _ _ s
  have h : tDc wi g tt tk tv (own.map (·.2)) σ H (fun x H1 => gName i x σ H1 D.nx) := h
  refine wpAny_bind (thn (dc_core (Qf := fun _ s' => SP X pins D .next s') hc hN I hi ok hg ht hk he hs h fun L C s' m H' I' q hn f => ?_) fun _ s' hq => wpAny_pure (wpAny_pure hq))
  show wpAny _ _ (assign (.Name y py) X.env (.ref L)) _ _ _
  refine wpAny_assign_Name (store_ok2 (v := V.ref L) I' hN hy (.inl hyl) rfl (fun s2 I2 ⟨a, sb, ha⟩ => ?_) (.inr hyl))
  obtain ⟨f0, f1, f2, f3, f4, f5⟩ := f
  have haC : C ≠ a := by
    rcases ha with z | z
    · rw [z]; exact f1
    · exact fun e => f4 y a z e.symm
  refine ⟨m, hn.sameBut sb haC, fun h3 sb3 => ?_⟩
  exact ⟨_, H', I2.turned (t' := s2.toks) (fun b o hb e => (sb3.2 b hb).trans e) f0 f1 f3 f4 f5, q⟩
end
end Gx
namespace Gx
open PySem PySem.Spec PyProof.Rows L2
/-- a statement that is never reached -/
def sNo : TS := fun _ _ _ => False
theorem ps_no {X : Cx} {st : Stmt} : PS X st sNo := ⟨fun _ _ _ _ _ _ h => h.elim⟩
theorem no {D : Ends} {σ : L2.St} {H : Hp} (h : False) : sNo D σ H := h
end Gx
namespace Gx
open PySem PySem.Spec PyProof.Rows L2
theorem gsub {to ti : TE} {t : TSet} {v : V} {σ : L2.St} {H : Hp} {Q : L2.St → Hp → Prop} (h : to σ H fun o H1 => ti σ H1 fun i H2 => t o i v H2 fun H3 => Q σ H3) : gSub to ti t v σ H Q := h
theorem neB {a b : Bool} {H : Hp} {Q : VK} (h : Q (.bl (a != b)) H) : rNe (.bl a) (.bl b) H Q := ⟨rfl, by
  have e : (!decide (V.bl a = V.bl b)) = (a != b) := by cases a <;> cases b <;> rfl
  rw [e]
  exact h⟩
theorem setL {p : Addr} {xs : List V} {k : Int} {j : Nat} {v : V} {H : Hp} {Q : Hp → Prop} (hp : H p = some (.lst xs)) (e : k = j) (l : j < xs.length) (h : Q (upd H p (.lst (xs.set j v)))) : rSetL (.ref p) (.int k) v H Q := ⟨p, xs, k, j, rfl, rfl, hp, by
  subst e
  unfold ixN
  simp [l], h⟩
end Gx
/-! ### a dict of the module: texts to numbers -/
namespace Gx
open PySem PySem.Spec PyProof.Rows L2
def ivs : List DictEntry → Option (List (Str × Int))
  | [] => some []
  | e :: r => match e.key, e.val, ivs r with
    | .str x _, .int i _, some l => some ((x, i) :: l)
    | _, _, _ => none
def intsW (K : PySem.W.Frag) (a : Addr) : Option (List (Str × Int)) := match K.lookup a with
  | some ⟨_, _, .dict es _, _⟩ => ivs es.toList
  | _ => none
/-- at a: a dict of the module with these texts and numbers -/
def KIv (K : PySem.W.Frag) (w : World) (a : Addr) (kvs : List (Str × Int)) : Prop := ∃ es n, K.lookup a = some ⟨.type "dict", none, .dict es n, #[]⟩ ∧ PySem.W.KeysLit w.params es.toList ∧ (a == sysModules) = false ∧ ivs es.toList = some kvs
theorem kiv_of {K : PySem.W.Frag} {w : World} {a : Addr} {ks : List Str} {kvs : List (Str × Int)} (h : He.dicW K a = some (He.keysIn w.params ks)) (g : intsW K a = some kvs) : KIv K w a kvs := by
  obtain ⟨es, n, q⟩ := He.dicW_ok h
  unfold intsW at g
  rw [q.at_] at g
  exact ⟨es, n, q.at_, q.lit, q.low, g⟩
def getS (kvs : List (Str × Int)) (x : Str) : Option Int := match kvs with
  | [] => none
  | (y, i) :: r => if (y == x) = true then some i else getS r x
theorem find_iv {x : Str} : ∀ {l : List DictEntry} {kvs : List (Str × Int)}, ivs l = some kvs → (l.any (·.refKey) = false) ∧ ((l.find? (·.key.isStr x) = none ∧ getS kvs x = none) ∨ ∃ e i t, l.find? (·.key.isStr x) = some e ∧ e.val = .int i t ∧ getS kvs x = some i)
  | [], kvs, h => by
    cases h
    exact ⟨rfl, .inl ⟨rfl, rfl⟩⟩
  | e :: r, kvs, h => by
    unfold ivs at h
    split at h
    · rename_i y t i u l hk hv hl
      cases h
      obtain ⟨h1, h2⟩ := find_iv (x := x) hl
      refine ⟨?_, ?_⟩
      · rw [List.any_cons, h1, Bool.or_false]
        unfold DictEntry.refKey
        rw [hk]
      · rw [List.find?_cons, hk, getS]
        show (match (y == x) with | true => some e | false => r.find? (·.key.isStr x)) = none ∧ _ ∨ _
        by_cases c : (y == x) = true
        · rw [c, if_pos rfl]
          exact .inr ⟨e, i, u, by show (match (y == x) with | true => some e | false => r.find? (·.key.isStr x)) = some e; rw [c], hv, rfl⟩
        · rw [Bool.not_eq_true] at c
          rw [c]
          rcases h2 with ⟨a, b⟩ | ⟨e', i', t', a, b, d⟩
          · exact .inl ⟨a, by rw [if_neg (by decide)]; exact b⟩
          · exact .inr ⟨e', i', t', by show (match (y == x) with | true => some e | false => r.find? (·.key.isStr x)) = some e'; rw [c]; exact a, b, by rw [if_neg (by decide)]; exact d⟩
    · cases h
theorem ns_iv {K : PySem.W.Frag} {a : Addr} {es : Array DictEntry} {n : Nat} {kvs : List (Str × Int)} (x : Str) (h : K.lookup a = some ⟨.type "dict", none, .dict es n, #[]⟩) (g : ivs es.toList = some kvs) :
    ∃ u, PySem.W.nsIn K a x = some u ∧ ((u = none ∧ getS kvs x = none) ∨ ∃ i t, u = some (.int i t) ∧ getS kvs x = some i) := by
  obtain ⟨h1, h2⟩ := find_iv (x := x) g
  unfold PySem.W.nsIn
  rw [h]
  rcases h2 with ⟨a, b⟩ | ⟨e, i, t, a, b, d⟩
  · exact ⟨none, by dsimp only; rw [a]; dsimp only; rw [h1]; rfl, .inl ⟨rfl, b⟩⟩
  · exact ⟨some e.val, by dsimp only; rw [a], .inr ⟨i, t, by rw [b], d⟩⟩
/-- D.get(y, z), D a dict of the module -/
def tKGet (kvs : List (Str × Int)) (ty tx : TE) : TE := fun σ H Q => ty σ H fun y H1 => tx σ H1 fun z H2 => ∃ x, y = .str x ∧ Q (((getS kvs x).map V.int).getD z) H2
theorem pe_kget {X : Cx} {a : Addr} {x : Str} {kvs : List (Str × Int)} {e f : Expr} {ty tx : TE} {p apos cpos : Pos} (kf : KIv X.K X.w a kvs) (gC : X.mg x = some (.ref a)) (hg : Gl X x) (he : PE X e ty) (hf : PE X f tx) (m : M2 X (.Name x p) "get" apos e f cpos) (hdb : (x == ("__debug__" : Str)) = false := by decide) :
    PE X (.Call (.Attribute (.Name x p) "get" apos) [e, f] [] cpos) (tKGet kvs ty tx) := by
  refine ⟨fun pins s σ H Q I h => ?_⟩
  obtain ⟨es, n, hl, hk, low, hv⟩ := kf
  refine wpAny_Call_method m.base m.few m.line PySem.F.plainAttrs_dict PySem.F.slot_dict_get PySem.F.type_dict_get (ld_glob I hg gC ?_ hdb)
  have hm := PySem.W.mapOf_K (prog := X.prog) (w := X.w) I.kIn hl hk
  refine ⟨hm.typeIs, fun b q => ?_, ?_⟩
  · cases q
    exact ⟨_, I.kIn _ _ hl, rfl⟩
  rw [m.trees]
  refine Calls.callWith_builtin rfl (Calls.evalArgs_plain (Calls.spliced_cons (thn (he.run pins s σ H _ I h) fun iv s2 ⟨y, H2, I2, ry, q2⟩ =>
    Calls.spliced_cons (thn (hf.run pins s2 σ H2 _ I2 q2) fun fv s3 ⟨z, H3, I3, rz, x, ey, q3⟩ => Calls.spliced_nil ?_))))
  subst ey
  obtain ⟨t, rfl⟩ := (show ∃ t, iv = Value.str x t from ry)
  have hm3 := PySem.W.mapOf_K (prog := X.prog) (w := X.w) I3.kIn hl hk
  refine call_meetsIn PySem.F.slot_dict_get hm3.typeIs PySem.F.entry_dict_get (PySem.F.args_dict_get_3 _ _ _) (meets_dict_get_default (strKind X.prog X.w) a (strKind_is X.prog X.w x t) low fv) ⟨_, hm3, ?_⟩
  obtain ⟨u, hu, h3⟩ := ns_iv x hl hv
  rw [PySem.W.find_K hl hu]
  rcases h3 with ⟨rfl, e1⟩ | ⟨i, t', rfl, e1⟩
  · rw [e1] at q3
    exact ⟨_, H3, I3.tok _, rz, q3⟩
  · rw [e1] at q3
    exact ⟨.int i, H3, I3.tok _, ⟨_, rfl⟩, q3⟩
theorem kget {kvs : List (Str × Int)} {ty tx : TE} {σ : L2.St} {H : Hp} {Q : VK} (h : ty σ H fun y H1 => tx σ H1 fun z H2 => ∃ x, y = .str x ∧ Q (((getS kvs x).map V.int).getD z) H2) : tKGet kvs ty tx σ H Q := h
end Gx
/-! ### for over a text -/
namespace Gx
open PySem PySem.Spec PyProof.Rows L2
section
variable {σ : L2.St} {H : Hp} {D : Ends} {te : TE}
theorem istr {R : It → Hp → Prop} (h : te σ H fun v H1 => ∃ x, v = .str x ∧ R (Its x) H1) : iStr te σ H R := h
theorem for_str {l : List Nat} {g : TG} {tb : TS} (Pv : Nat → L2.St → Hp → Prop) (h0 : Pv 0 σ H)
    (hs : ∀ i c σ H, l[i]? = some c → Pv i σ H → g (.str (mkS [c])) σ H fun σ2 H2 => tb { D with nx := Pv (i + 1), ct := Pv (i + 1), bk := D.nx } σ2 H2) (hd : ∀ σ H, Pv l.length σ H → D.nx σ H) :
    ∃ W : Nat → Nat → L2.St → Hp → Prop, (∃ m, W 0 m σ H) ∧ ∀ i m σ H, W i m σ H →
      ((Its (mkS l)).stop i H ∧ D.nx σ H) ∨ ((Its (mkS l)).go i H ∧ ∃ N : L2.St → Hp → Prop, (∀ σ' H', N σ' H' → ∃ m', m' < m ∧ W (i + 1) m' σ' H') ∧ ∀ x H', (Its (mkS l)).yld i H x H' → g x σ H' fun σ2 H2 => tb { D with nx := N, ct := N, bk := D.nx } σ2 H2) := by
  have hz : (mkS l).cps.size = l.length := by simp [mkS]
  refine ⟨fun i m σ H => m = l.length - i ∧ i ≤ l.length ∧ Pv i σ H, ⟨l.length, by simp, Nat.zero_le _, h0⟩, ?_⟩
  rintro i m σ H ⟨rfl, hi, p⟩
  by_cases hlt : i < l.length
  · refine .inr ⟨by show i < (mkS l).cps.size; omega, Pv (i + 1), fun σ' H' p' => ⟨l.length - (i + 1), by omega, rfl, hlt, p'⟩, ?_⟩
    rintro x H' ⟨rfl, c, hc, rfl⟩
    exact hs i c σ _ (by simpa [mkS] using hc) p
  · have e : i = l.length := by omega
    subst e
    exact .inl ⟨by show (mkS l).cps.size ≤ l.length; omega, hd σ H p⟩
end
end Gx
/-! ### a def that is called from outside alone: the marks of repr are known there -/
namespace Gx
open PySem PySem.Spec PyProof.Rows L2
/-- what f promises where it is called in the surroundings A, frames outer -/
def FnAt (P : Program) (w : World) (K : PySem.W.Frag) (mg : Str → Option Value) (base : Heap) (A : Around) (outer : List Env) (f : Addr) (fd : FuncData) (ps : List Str) (sp : Sp) : Prop :=
  ∀ (s : Shared) (H : Hp) (args : Args) (us : List Value) (vs : List V) (Q : VK) (E : XK), Env0 P w K mg base A outer s H → BindsTo s fd args (ps.zip us) → Vals vs us → sp vs H Q E →
    codeAny (model P w) A (.call (.ref f) args) (CR CX0 outer P w H s Q E) s
theorem fun_at {P : Program} {w : World} {K : PySem.W.Frag} {mg : Str → Option Value} {base : Heap} {A : Around} {outer : List Env} {x qual : Str} {st : Stmt} {f : Addr} {fd : FuncData} {N ps : List Str} {k : Nat} {sp : Sp}
    (F : Fun K x qual st f fd) (S : FnScope N ps (defScope st)) (hr : Room (k + 1) A) (len : ∀ vs H Q E, sp vs H Q E → vs.length = ps.length)
    (body : ∀ (cdv : Value) (s : Shared) (H : Hp) (vs : List V) (Q : VK) (E : XK), Room k (A.deeper (envOfC qual (defScope st) s.heap.objs.size f cdv)) → sp vs H Q E →
      ∃ t, PSs (cxOf CX0 P w K mg base N qual (defScope st) f cdv A outer s H E).nox (defBody st) t ∧ t { nx := fun _ H' => Q .non H', rt := Q } (start N vs) H) :
    FnAt P w K mg base A outer f fd ps sp := by
  intro s H args us vs Q E env bind rel promise
  obtain ⟨_, _, _, _, _, _, cdv, _, _, rfl, look, code⟩ := F.ex
  have vl := len vs H Q E promise
  have kin : K.In s.heap := env.mod.kin.keeps fun b o q => (env.bs b o q).1
  have nolim : s.heap.NoLimit := env.mod.nolimit.keeps fun b o q => (env.bs b o q).1
  refine codeAny_call_function hr.depth (kin _ _ look) rfl S.co S.gen rfl (PySem.W.codeRec_of kin code) (bind _ _ _ _ ?_)
  have kinds : ∀ y ∈ ps.zip us, (defScope st).names.lookup y.1 = some .local ∨ ((defScope st).names.lookup y.1 = some .cell ∧ ((cellsFrom (s.heap.objs.size + 1) (defScope st).names []).lookup y.1).isSome = true) := by
    rintro ⟨n, v⟩ hy
    exact (S.par n (List.of_mem_zip hy).1).imp id fun q => ⟨q, PySem.W.cellsFrom_some _ _ _ (.inl q)⟩
  refine wpAny_newFunctionEnv_cells S.kind kinds fun e he s1 step => ?_
  subst he
  refine ⟨nolim.keeps step.toInCall.keep, codeAny_func ?_⟩
  obtain ⟨t, derived, reading⟩ := body cdv s H vs Q E (hr.deeper _) promise
  have J := inv_start (CX := CX0) (E := E) S hr.hd env vl rel step
  refine wpAny_mono (derived.nox.run [] s1 (start N vs) H _ J reading) (fun fl s' got => ?_) fun _ _ z => z
  match fl, got with
  | .ret u, ⟨v, _, H', I', rv, z⟩ => exact ⟨v, H', I'.os, I'.bare, I'.base, I'.hok, rv, z⟩
  | .next, ⟨_, H', I', z⟩ => exact ⟨.non, H', I'.os, I'.bare, I'.base, I'.hok, rfl, z⟩
  | .brk, ⟨_, _, _, z⟩ => exact z.elim
  | .cont, ⟨_, _, _, z⟩ => exact z.elim
/-- the law's call from outside -/
theorem call_at {P : Program} {w : World} {K : PySem.W.Frag} {mg mb : Str → Option Value} {fa a : Addr} {fd : FuncData} {x : Str} {sp : Sp} {s : Shared} {vs : List Value} {ns : List Int}
    (kin : K.In s.heap) (glob : s.heap.Ns mainGlobals mg) (blt : s.heap.Ns builtinsNs mb) (std : ∀ x : Str, x ≠ "__name__" → mb x = bootBuiltins x) (nolim : s.heap.NoLimit) (gens : s.gens = #[])
    (ha : s.heap.get? a = some { cls := .type "list", data := .seq vs.toArray }) (hin : IntsAre vs ns) (few : ns.length ≤ sizeLine)
    (F : ∀ base : Heap, K.In base → base.Ns mainGlobals mg → FnAt P w K mg base callerA [] fa fd [x] sp) (bind : ∀ (s : Shared) (u : Value), BindsTo s fd ⟨[u], []⟩ [(x, u)])
    (promise : ∀ H : Hp, Only H → SqL K H a (ns.map V.int) → sp [.ref a] H (fun v _ => v = .bl true) fun _ _ _ => False) :
    codeAny (model P w) callerA (.call (.ref fa) ⟨[.ref a], []⟩) (fun r s' => r = .ok (.ret (.bool true)) ∧ OldK s.heap s'.heap ∧ s'.os = s.os ∧ AllBare s'.gens) s := by
  have rel := vals_ints hin
  have vl := hin.length
  -- what is tracked: nothing, or the script alone
  have go : ∀ H : Hp, Only H → SqL K H a (ns.map V.int) → HOk P w H s.heap → (∀ b, H b ≠ none → b = a ∧ K.lookup a = none) → codeAny (model P w) callerA (.call (.ref fa) ⟨[.ref a], []⟩)
      (fun r s' => r = .ok (.ret (.bool true)) ∧ OldK s.heap s'.heap ∧ s'.os = s.os ∧ AllBare s'.gens) s := by
    intro H only list ok track
    have apart : ∀ {b : Addr} {o : Obj}, s.heap.get? b = some o → (b ≠ a ∨ K.lookup b ≠ none) → H b = none := by
      intro b o _ ne
      cases q : H b with
      | none => rfl
      | some u =>
        obtain ⟨e1, e2⟩ := track b (by rw [q]; exact Option.some_ne_none u)
        subst e1
        exact (ne.elim (fun z => z rfl) fun z => z e2).elim
    have inb : ∀ {b : Addr} {m : Str → Option Value}, s.heap.Ns b m → (hidT s.heap H).Ns b m := by
      rintro b m ⟨o, es, ep, e, d, r⟩
      refine ⟨o, es, ep, hidT_get e (apart e (.inl fun z => ?_)), d, r⟩
      subst z
      rw [ha] at e
      cases e
      cases d
    have kin' : K.In (hidT s.heap H) := fun b o e => hidT_get (kin b o e) (apart (kin b o e) (.inr (by rw [e]; exact Option.some_ne_none o)))
    obtain ⟨mc, l1, l2⟩ := nolim
    have env : Env0 P w K mg (hidT s.heap H) callerA [] s H := by
      refine ⟨rfl, ⟨kin', inb glob, ⟨mb, inb blt, std⟩, ⟨mc, inb l1, l2⟩⟩, fun b o e => of_hidT e, Nat.le_of_eq (hidT_size _ _), trivial, fun b hb => ?_, ok, .of_eq gens⟩
      have hb' : b ∈ ([] : List Addr) := hb
      cases hb'
    have main := F _ kin' (inb glob) s H ⟨[.ref a], []⟩ [.ref a] [.ref a] _ _ env (bind s (.ref a)) (.cons rfl .nil) (promise H only list)
    refine codeAny_mono main fun r s' got => ?_
    match r, got with
    | .error _, z => exact z.elim
    | .ok .next, z => exact (show False from z).elim
    | .ok .brk, z => exact (show False from z).elim
    | .ok .cont, z => exact (show False from z).elim
    | .ok (.ret u), ⟨v, H', os, bare, un, ok', rv, tt⟩ =>
      obtain rfl : v = .bl true := tt
      obtain rfl : u = Value.bool true := rv
      refine ⟨rfl, OldK.of_keep fun b o e => ?_, os, bare⟩
      rcases only b with z | ⟨ob, xs, z⟩
      · exact un.keep b o e z (fun q => by have q' : b ∈ ([] : List Addr) := q; cases q') (fun q => by cases q)
      · have e1 := (ok b _ z).1
        have e2 := (ok' b _ (un.frzs b ob _ z)).1
        rw [e] at e1
        cases e1
        exact e2
  by_cases hk : K.lookup a = none
  · -- the script is an object of its own
    have eH : ∀ b, (if b = a then some (HO.frz { cls := .type "list", data := .seq vs.toArray } (.lst (ns.map V.int))) else none) ≠ none → b = a := fun b z => by
      by_cases hb : b = a
      · exact hb
      · rw [if_neg hb] at z
        exact absurd rfl z
    refine go (fun b => if b = a then some (HO.frz { cls := .type "list", data := .seq vs.toArray } (.lst (ns.map V.int))) else none) (fun b => ?_) (.inl (.inr ⟨_, if_pos rfl⟩)) (fun b u z => ?_) fun b z => ⟨eH b z, hk⟩
    · by_cases hb : b = a
      · exact .inr ⟨_, _, if_pos hb⟩
      · exact .inl (if_neg hb)
    · obtain rfl := eH b (fun e => by
        have z2 := e.symm.trans z
        cases z2)
      have z2 := (if_pos rfl).symm.trans z
      cases z2
      exact ⟨ha, by rw [List.length_map]; exact few, vs, _, rel, ha⟩
  · obtain ⟨o, hk⟩ := Option.ne_none_iff_exists'.mp hk
    have e := kin a o hk
    rw [ha] at e
    cases e
    refine go (fun _ => none) (fun _ => .inl rfl) (.inr ⟨_, vs.toArray, _, hk, rfl, rfl, rfl, ?_, ?_⟩) (fun b u z => ?_) fun b z => absurd rfl z
    · rw [List.size_toArray, vl]
      exact few
    · exact rel
    · cases (show (none : Option HO) = some u from z)
theorem walk_at' {l : PySem.W.OpenLaw} {n : Nat} {q : Program} {loose : List Str} {XP : (Str → Option Value) → Heap → Prop} {YP : World → Heap → Prop} {d : DefRec} {K : Params → PySem.W.Frag} {sp : World → Sp} {x : Str}
    (hn : l.most = some n) (hn2 : n ≤ sizeLine) (hdf : d.params.defaults = []) (hY : ∀ (w : World) (h : Heap), YP w h → (K w.params).In h)
    (F : ∀ (w : World) (mg : Str → Option Value) (fa : Addr) (h : Heap), (K w.params).In h → h.Ns mainGlobals mg → mg d.name = some (.ref fa) →
      ∃ fd : FuncData, (∀ (s : Shared) (u : Value), BindsTo s fd ⟨[u], []⟩ [(x, u)]) ∧ ∀ base : Heap, (K w.params).In base → base.Ns mainGlobals mg → FnAt l.prog w (K w.params) mg base callerA [] fa fd [x] (sp w))
    (promise : ∀ (w : World) (H : Hp) (a : Addr) (ns : List Int), ns.length ≤ n → Only H → SqL (K w.params) H a (ns.map V.int) → sp w [.ref a] H (fun v _ => v = .bl true) fun _ _ _ => False) :
    PySem.W.WalkO q loose XP YP l.row.toRowW d [] (fun f vs => PySem.call f vs) := by
  refine Att.attach_call hn hdf ?_
  intro w _ s mg _ fa _ _ _ _ a vs ns G Y _ _ _ name obj hin hl gens
  obtain ⟨fd, bind, hF⟩ := F w mg fa _ (hY w _ Y) G.T.g name
  exact call_at (hY w _ Y) G.T.g G.T.b G.T.builtins G.T.nolimit gens obj hin (Nat.le_trans hl hn2) hF bind fun H o z => promise w H a ns hl o z
/-- repr of nested lists and tuples -/
def rReprD (K : PySem.W.Frag) : List V → Hp → VK → Prop := fun xs H Q => ∃ a d, xs = [.ref a] ∧ Dp K H (.ref a) d ∧ d.showable = true ∧ d.hasDict = false ∧ d.depth ≤ 64 ∧ d.shown.length ≤ sizeLine ∧ Q (.str d.shown) H
theorem cr_reprD {X : Cx} (hG : X.A.guards = some []) (hu : X.A.units + 66 < cLine) : CallR X (.builtin "repr") (rReprD X.K) := by
  intro pins s σ H xs us Q I r h
  obtain ⟨a, d, rfl, hd, hs, hn, hp, hz, q⟩ := h
  obtain ⟨u, rfl, r1⟩ := vals1 r
  cases r1
  obtain ⟨as, rd⟩ := Dp.reads I d _ _ hd rfl
  exact repr_of_reads' rd hs (PyData.noDict_hsm hn) hG (by omega) (fun _ _ e => e) (fun h' v tk hk => ⟨.str d.shown, H, I.kept (t' := tk) hk, ⟨v, rfl⟩, q⟩) hz
theorem hu66 {k : Nat} {A : Around} (r : Room k A) : A.units + 66 < cLine := by
  have := r.un
  omega
/-- y in x, x an instance of C with its own __contains__ -/
def rInO (C : Addr) (sp : Sp) : R2 := fun y x H Q => ∃ a dx fs, x = .ref a ∧ H a = some (.ins C dx fs) ∧ sp [x, y] H (fun v H' => (∃ b, v = .bl b) ∧ Q v H') E0
theorem op_inO {X : Cx} {C f : Addr} {k : Nat} {fd : FuncData} {ps : List Str} {sp : Sp} (c : PySem.W.findIn X.K (.ref C) "__contains__" = some (some (.ref f))) (hf : PySem.W.isFn X.K (.ref f) = true) (F : FnOk X.prog X.w X.K X.mg X.base CX0 k f fd ps sp) (hr : Room k X.A) (hb : Binds X.K fd ps []) :
    OpR X (compareOp .In) (rInO C sp) := by
  intro pins s σ H y x u v Q I ry rx hq
  obtain ⟨a, dx, fs, rfl, ha, q⟩ := hq
  obtain rfl : v = Value.ref a := rx
  obtain ⟨mA, J, _⟩ := ins_get I.hok ha
  obtain ⟨od, J, _⟩ := J.look
  obtain ⟨m, hF⟩ := I.fr
  refine PySem.W.in_K hF I.ok.mod.kin J c hf ?_
  refine wpAny_mono (run_fn (us := [.ref a, u]) (vs := [.ref a, y]) (ds := []) (dvs := []) F hr hb .nil pass0 I (.cons rfl (.cons ry .nil)) q) (fun z s' hz => ?_) fun _ _ h => h
  obtain ⟨v', H', I', rv, ⟨b, rfl⟩, q'⟩ := hz
  cases rv
  exact wpAny_truthy_bool ⟨V.bl b, H', I', rfl, q'⟩
theorem notB {a b : Bool} {H : Hp} {Q : VK} (h : Q (.bl (!decide (a = b))) H) : rNotB (.bl a) (.bl b) H Q := ⟨a, b, rfl, rfl, h⟩
end Gx
/-! ### a text as a list of its signs; sorted(text); a text walked in a comprehension; x in D, D[x] of a module dict -/
namespace Gx
open PySem PySem.Spec PyProof.Rows L2
/-- the signs of a text, a text each -/
def signV (l : List Nat) : List V := l.map fun c => V.str (mkS [c])
theorem sign_rel {l : List Nat} {acc : Array Value} (h : ItemsOf (SignAt (mkS l)) acc (mkS l).cps.size) : Vals (signV l) acc.toList := by
  have hz : (mkS l).cps.size = l.length := by simp [mkS]
  have el : acc.toList.length = acc.size := by simp
  refine vals_of_at (by unfold signV; rw [List.length_map, el, h.1, hz]) fun j x w h1 h2 => ?_
  obtain ⟨c, u, hc, rfl⟩ := h.2 j w (by rw [← Array.getElem?_toList]; exact h2)
  have hc' : l[j]? = some c := by simpa [mkS] using hc
  unfold signV at h1
  rw [List.getElem?_map, hc'] at h1
  cases h1
  exact ⟨u, rfl⟩
def rListStr : List V → Hp → VK → Prop := fun xs H Q => ∃ l : List Nat, xs = [.str (mkS l)] ∧ l.length ≤ 16777216 ∧ ∀ p, H p = none → Q (.ref p) (upd H p (.lst (signV l)))
theorem cr_listStr {X : Cx} (hc : X.calm = true) : CallR X (.type "list") rListStr := by
  intro pins s σ H xs us Q I r h
  obtain ⟨l, rfl, hl, q⟩ := h
  obtain ⟨u, rfl, t, rfl⟩ := vals1 r
  have hz : (mkS l).cps.size = l.length := by simp [mkS]
  refine call_list_str (I.ok.hd hc) _ t (fun h' tk acc' c' hk hS hacc => ?_) (by rw [hz, sizeLine_eq]; exact hl)
  refine ⟨.ref s.heap.objs.size, upd H s.heap.objs.size (.lst (signV l)), I.laid hk (Nat.le_refl _) (show ObjOk X.prog X.w _ _ _ (.lst (signV l)) from ⟨?_, acc'.toList, c', sign_rel hacc, ?_⟩), rfl, q _ (I.hok.fresh (Nat.le_refl _))⟩
  · unfold signV
    rw [List.length_map, sizeLine_eq]
    exact hl
  · rw [Array.toArray_toList]; exact hS
/-- one sign -/
def cv : Value → Nat
  | .str x _ => x.cps.getD 0 0
  | _ => 0
def ltCv (v u : Value) : Bool := decide (cv v < cv u)
theorem swo_cv : SrtO.Swo ltCv := by
  refine ⟨fun x y h => ?_, fun x y z h1 h2 => ?_⟩
  · have a := of_decide_eq_true (p := cv x < cv y) h
    exact decide_eq_false (p := cv y < cv x) (by omega)
  · have a := of_decide_eq_false (p := cv y < cv x) h1
    have b := of_decide_eq_false (p := cv z < cv y) h2
    exact decide_eq_false (p := cv z < cv x) (by omega)
theorem strs_of_signs : ∀ {l : List Nat} {vs : List Value}, Vals (signV l) vs → StrsAre vs (l.map fun c => mkS [c]) := by
  intro l vs h
  have e : signV l = (l.map fun c => mkS [c]).map V.str := by unfold signV; rw [List.map_map]; rfl
  rw [e] at h
  exact h.strs
theorem signs_mem {l : List Nat} {vs : List Value} (h : Vals (signV l) vs) : (∀ v ∈ vs, ∃ c t, v = Value.str (mkS [c]) t) ∧ vs.map cv = l := by
  induction l generalizing vs with
  | nil =>
    cases h
    exact ⟨fun v hv => (List.not_mem_nil hv).elim, rfl⟩
  | cons c l ih =>
    unfold signV at h
    rw [List.map_cons] at h
    cases h with
    | cons a t =>
      obtain ⟨tk, rfl⟩ := a
      obtain ⟨h1, h2⟩ := ih t
      refine ⟨fun v hv => ?_, by rw [List.map_cons, h2]; rfl⟩
      rcases List.mem_cons.mp hv with e | hv
      · exact ⟨c, tk, e⟩
      · exact h1 v hv
theorem signs_of {vs : List Value} (h : ∀ v ∈ vs, ∃ c t, v = Value.str (mkS [c]) t) : Vals (signV (vs.map cv)) vs := by
  induction vs with
  | nil => exact .nil
  | cons v vs ih =>
    obtain ⟨c, t, rfl⟩ := h v List.mem_cons_self
    exact .cons ⟨t, rfl⟩ (ih fun u hu => h u (List.mem_cons_of_mem _ hu))
theorem signs_sortable {prog : Program} {w : World} {A : Around} {s : Shared} {a : Addr} {l : List Nat} {vs : List Value} (hI : Vals (signV l) vs) (h2 : 2 ≤ vs.length) : SrtO.SortableO prog w A s a vs ltCv := by
  intro h' _
  refine ⟨oneType', fun Q E hq => ?_, fun p q hm hm' => ?_⟩
  · match vs, hI, h2 with
    | v1 :: v2 :: rest, hI, _ =>
      rw [keyKind_strs (strs_of_signs hI)]
      exact wpAny_pure hq
    | [], _, h => exact absurd h (by decide)
    | [v], _, h => exact absurd h (by simp)
  · obtain ⟨a, t, e⟩ := (signs_mem hI).1 _ hm
    obtain ⟨b, u, e'⟩ := (signs_mem hI).1 _ hm'
    show wpAny (model prog w) A (keyLt' oneType' p.1 q.1) (fun r s' => s' = { s with heap := h' } ∧ r = ltCv p.1 q.1) (fun _ _ => False) { s with heap := h' }
    rw [e, e', keyLt'_oneType]
    refine oneLt_str ⟨rfl, ?_⟩
    show decide ([a] < [b]) = decide (a < b)
    exact decide_eq_decide.mpr (by simp [List.cons_lt_cons_iff])
theorem iadd_str {prog : Program} {w : World} {A : Around} {s : Shared} {R : Result → Shared → Prop} (hh : A.handled = none) (x : Str) (t : Tok) (S : Addr) (c₀ : Nat) (hS : s.heap.get? S = some { cls := .type "list", data := .seq #[] c₀ })
    (hR : ∀ h' tk acc' c', (∀ b o, b ≠ S → s.heap.get? b = some o → h'.get? b = some o) → h'.get? S = some { cls := .type "list", dict := none, data := .seq acc' c', slots := #[] } →
      ItemsOf (SignAt x) acc' x.cps.size → R (.ok (.ret (.ref S))) { s with heap := h', toks := tk }) (hn : x.cps.size ≤ sizeLine) :
    codeAny (model prog w) A (.builtin "list.__iadd__" ⟨[.ref S, .str x t], []⟩) R s := by
  refine codeAny_builtin F.entry_list_iadd ?_
  rw [Around.under_plainId F.plain_list_iadd _]
  exact wpAny_extend_str (hn := hn) hh x t S (.ref S) c₀ hS hR
theorem collect_strG {prog : Program} {w : World} {A : Around} {E : Value → Shared → Prop} {s : Shared} {Q : List Value → Shared → Prop} (hh : A.handled = none) (x : Str) (t : Tok)
    (hQ : ∀ h' tk acc, (∀ b o, s.heap.get? b = some o → h'.get? b = some o) → s.heap.objs.size < h'.objs.size → ItemsOf (SignAt x) acc x.cps.size → Q acc.toList { s with heap := h', toks := tk }) (hn : x.cps.size ≤ sizeLine) :
    wpAny (model prog w) A (collect (.str x t)) Q E s := by
  unfold collect
  refine wpAny_bind (wpAny_runValue (codeAny_builtin F.entry_proto_collect ?_))
  rw [Around.under_plainId F.plain_proto_collect _]
  show wpAny _ A.in1 (newList [] >>= fun l => again (.builtin "list.__iadd__" ⟨[l, .str x t], []⟩)) _ _ s
  refine wpAny_bind (wpAny_newObj_type ?_)
  have hS : (s.heap.push { cls := .type "list", data := .seq #[] }).get? s.heap.objs.size = some { cls := .type "list", data := .seq #[] } := Heap.get?_push_size _ rfl
  refine wpAny_pure ⟨plainId_quiet F.plain_list_iadd _, iadd_str (s := { s with heap := s.heap.push { cls := .type "list", data := .seq #[] } }) hh x t s.heap.objs.size 0 hS (fun h' tk acc' c' hk hS' hacc => ?_) hn⟩
  show wpAny _ A (load s.heap.objs.size >>= _) _ _ _
  refine wpAny_bind (wpAny_load hS' ?_)
  exact wpAny_pure (hQ h' tk acc' (fun b o e => hk b o (Nat.ne_of_lt (Heap.lt_size e)) (Heap.get?_push_of_some _ e)) (Heap.lt_size hS') hacc)
/-- sorted(a text): the signs, sorted -/
def rSortStr : List V → Hp → VK → Prop := fun xs H Q => ∃ l : List Nat, xs = [.str (mkS l)] ∧ l.length ≤ 16777216 ∧ ∀ (l' : List Nat) p, l'.Perm l → l'.Pairwise (· ≤ ·) → H p = none → Q (.ref p) (upd H p (.lst (signV l')))
theorem cr_sortStr {X : Cx} (hc : X.calm = true) : CallR X (.builtin "sorted") rSortStr := by
  intro pins s σ H xs us Q I r h
  obtain ⟨l, rfl, hl, q⟩ := h
  obtain ⟨u, rfl, t, rfl⟩ := vals1 r
  have hz : (mkS l).cps.size = l.length := by simp [mkS]
  refine Calls.call_function_entry kind_sorted plain_sorted entry_sorted (args_sorted1 _) ?_
  unfold Builtin.«sorted»
  refine wpAny_bind (m := checkCount "sorted" 1 1 _) (wpAny_pure ?_)
  refine wpAny_bind (collect_strG (A := X.A.in1) (I.ok.hd hc) _ t (fun h1 tk acc k1 hp hacc => ?_) (by rw [hz, sizeLine_eq]; exact hl))
  have hv := sign_rel hacc
  generalize acc.toList = vs at hv
  have hvl : vs.length ≤ sizeLine := by
    rw [← hv.length]
    unfold signV
    rw [List.length_map, sizeLine_eq]
    exact hl
  refine wpAny_bind (wpAny_newList ?_ hvl)
  have hoL : (h1.push (seqObj "list" vs.toArray 0)).get? h1.objs.size = some (seqObj "list" vs.toArray 0) := Heap.get?_push_size _ rfl
  refine wpAny_bind (wpAny_holding (wpAny_call_entry slot_list_sort ⟨_, hoL, rfl⟩ entry_list_sort (SrtO.list_sort_ord swo_cv hoL hvl (fun h2 => signs_sortable hv h2) fun out h1' h2 => ⟨_, rfl, ?_⟩) (args_list_sort _)))
  obtain ⟨c, hc'⟩ := sortedHeap_at (vs := vs) (out := out.toArray) hoL
  have hm := signs_mem hv
  have hmo : ∀ v ∈ out, ∃ c t, v = Value.str (mkS [c]) t := fun v hv => hm.1 v (h2.perm.mem_iff.mp hv)
  have pm : (out.map cv).Perm l := by
    have := h2.perm.map cv
    rw [hm.2] at this
    exact this
  have pw : (out.map cv).Pairwise (· ≤ ·) := List.pairwise_map.mpr (h1'.imp fun {x y} h => Nat.not_lt.mp (of_decide_eq_false (p := cv y < cv x) h))
  have hlen : (signV (out.map cv)).length ≤ sizeLine := by
    unfold signV
    rw [List.length_map, pm.length_eq, sizeLine_eq]
    exact hl
  have hk : ∀ b u, s.heap.get? b = some u → (sortedHeap (h1.push (seqObj "list" vs.toArray 0)) h1.objs.size vs out.toArray).get? b = some u := fun b u e => by
    have q := k1 b u e
    have hlt := Heap.lt_size q
    rw [sortedHeap_old (Nat.ne_of_lt hlt) (by rw [size_push']; exact Nat.lt_succ_of_lt hlt)]
    exact Heap.get?_push_of_some _ q
  exact wpAny_pure ⟨_, rfl, .ref h1.objs.size, upd H h1.objs.size (.lst (signV (out.map cv))), I.laid (t' := tk) hk (Nat.le_of_lt hp) ⟨hlen, out, c, signs_of hmo, hc'⟩, rfl, q _ _ pm pw (I.hok.fresh (Nat.le_of_lt hp))⟩
theorem listStr {l : List Nat} {H : Hp} {Q : VK} (hl : l.length ≤ 16777216) (h : ∀ p H1, Ext1 H H1 p (.lst (signV l)) → Q (.ref p) H1) : rListStr [.str (mkS l)] H Q := ⟨l, rfl, hl, fun p np => h p _ (ext1 np)⟩
theorem sortStr {l : List Nat} {H : Hp} {Q : VK} (hl : l.length ≤ 16777216) (h : ∀ l' p H1, l'.Perm l → l'.Pairwise (· ≤ ·) → Ext1 H H1 p (.lst (signV l')) → Q (.ref p) H1) : rSortStr [.str (mkS l)] H Q := ⟨l, rfl, hl, fun l' p pm pw np => h l' p _ pm pw (ext1 np)⟩
/-- a comprehension over a text -/
theorem lc_str {l : List Nat} {g : TG} {tt : TT} {te : TE} {vs : List Nat} {σ : L2.St} {H1 : Hp} {D : Addr} {Qd : Hp → Prop} (Pv : Nat → Hp → Prop) (h0 : Pv 0 (upd H1 D (.lst [])))
    (hs : ∀ i c H, l[i]? = some c → Pv i H → g (.str (mkS [c])) (wipe σ vs) H fun σ2 H2 => wipe σ2 vs = wipe σ vs ∧ tt σ2 H2 fun b H3 =>
      if b = true then te σ2 H3 fun y H4 => ∃ acc, H4 D = some (.lst acc) ∧ acc.length < sizeLine ∧ Pv (i + 1) (upd H4 D (.lst (acc ++ [y]))) else Pv (i + 1) H3) (hd : ∀ H, Pv l.length H → Qd H) :
    ∃ W : Nat → Nat → Hp → Prop, (∃ m, W 0 m (upd H1 D (.lst []))) ∧ ∀ i m H, W i m H →
      ((Its (mkS l)).stop i H ∧ Qd H) ∨ ((Its (mkS l)).go i H ∧ ∃ Nx : Hp → Prop, (∀ H', Nx H' → ∃ m', m' < m ∧ W (i + 1) m' H') ∧ ∀ x H', (Its (mkS l)).yld i H x H' → g x (wipe σ vs) H' fun σ2 H2 => wipe σ2 vs = wipe σ vs ∧ tt σ2 H2 fun b H3 =>
        if b = true then te σ2 H3 fun y H4 => ∃ acc, H4 D = some (.lst acc) ∧ acc.length < sizeLine ∧ Nx (upd H4 D (.lst (acc ++ [y]))) else Nx H3) := by
  have hz : (mkS l).cps.size = l.length := by simp [mkS]
  refine ⟨fun i m H => m = l.length - i ∧ i ≤ l.length ∧ Pv i H, ⟨l.length, by simp, Nat.zero_le _, h0⟩, ?_⟩
  rintro i m H ⟨rfl, hi, p⟩
  by_cases hlt : i < l.length
  · refine .inr ⟨by show i < (mkS l).cps.size; omega, Pv (i + 1), fun H' p' => ⟨l.length - (i + 1), by omega, rfl, hlt, p'⟩, ?_⟩
    rintro x H' ⟨rfl, c, hc, rfl⟩
    exact hs i c _ (by simpa [mkS] using hc) p
  · have e : i = l.length := by omega
    subst e
    exact .inl ⟨by show (mkS l).cps.size ≤ l.length; omega, hd H p⟩
/-- x in D, x not in D, D[x], D a dict of the module -/
def rInK (a : Addr) (kvs : List (Str × Int)) (n : Bool) : R2 := fun x y H Q => ∃ z, x = .str z ∧ y = .ref a ∧ Q (.bl ((getS kvs z).isSome != n)) H
theorem op_inK {X : Cx} {a : Addr} {kvs : List (Str × Int)} (k : KIv X.K X.w a kvs) : OpR X (compareOp .In) (rInK a kvs false) := by
  obtain ⟨es, n, h1, h2, h3, h4⟩ := k
  intro pins s σ H x y v u Q I rx ry h
  obtain ⟨z, rfl, rfl, q⟩ := h
  obtain ⟨r, hr, hc⟩ := ns_iv z h1 h4
  refine op_in_kd ⟨h1, h2, h3⟩ pins s σ H _ _ v u Q I rx ry ⟨z, r, rfl, rfl, hr, ?_⟩
  rcases hc with ⟨rfl, e⟩ | ⟨i, t, rfl, e⟩ <;> (rw [e] at q; exact q)
theorem op_notInK {X : Cx} {a : Addr} {kvs : List (Str × Int)} (k : KIv X.K X.w a kvs) : OpR X (compareOp .NotIn) (rInK a kvs true) := by
  obtain ⟨es, n, h1, h2, h3, h4⟩ := k
  intro pins s σ H x y v u Q I rx ry h
  obtain ⟨z, rfl, rfl, q⟩ := h
  obtain ⟨r, hr, hc⟩ := ns_iv z h1 h4
  refine op_notIn_kd ⟨h1, h2, h3⟩ pins s σ H _ _ v u Q I rx ry ⟨z, r, rfl, rfl, hr, ?_⟩
  rcases hc with ⟨rfl, e⟩ | ⟨i, t, rfl, e⟩ <;> (rw [e] at q; exact q)
theorem inK {a : Addr} {kvs : List (Str × Int)} {n : Bool} {z : Str} {H : Hp} {Q : VK} (q : Q (.bl ((getS kvs z).isSome != n)) H) : rInK a kvs n (.str z) (.ref a) H Q := ⟨z, rfl, rfl, q⟩
def rIxK (a : Addr) (kvs : List (Str × Int)) : R2 := fun x y H Q => ∃ z i, x = .ref a ∧ y = .str z ∧ getS kvs z = some i ∧ Q (.int i) H
theorem ix_K {X : Cx} {a : Addr} {kvs : List (Str × Int)} (k : KIv X.K X.w a kvs) : IxR X (rIxK a kvs) := by
  obtain ⟨es, n, h1, h2, h3, h4⟩ := k
  intro value slice pins s σ H x y v u Q I rx ry h hs
  obtain ⟨z, i, rfl, rfl, e, q⟩ := h
  obtain ⟨r, hr, hc⟩ := ns_iv z h1 h4
  rcases hc with ⟨rfl, e'⟩ | ⟨i', t, rfl, e'⟩
  · rw [e] at e'
    cases e'
  · rw [e] at e'
    cases e'
    exact ix_kdict value slice pins s σ H _ _ v u Q I rx ry ⟨a, z, .int i, rfl, rfl, ⟨es, n, _, h1, h2, hr, ⟨t, rfl⟩⟩, q⟩ hs
theorem ixK {a : Addr} {kvs : List (Str × Int)} {z : Str} {i : Int} {H : Hp} {Q : VK} (e : getS kvs z = some i) (q : Q (.int i) H) : rIxK a kvs (.ref a) (.str z) H Q := ⟨z, i, rfl, rfl, e, q⟩
/-- c in a text, c one sign -/
def rInSg : R2 := fun x y H Q => ∃ (c : Nat) (z : Str), x = .str ⟨#[c]⟩ ∧ y = .str z ∧ Q (.bl (decide (c ∈ z.cps.toList))) H
def rNotInSg : R2 := fun x y H Q => ∃ (c : Nat) (z : Str), x = .str ⟨#[c]⟩ ∧ y = .str z ∧ Q (.bl (!decide (c ∈ z.cps.toList))) H
theorem op_inSg {X : Cx} : OpR X (compareOp .In) rInSg := op_in_sign
theorem op_notInSg {X : Cx} : OpR X (compareOp .NotIn) rNotInSg := op_notIn_sign
theorem inSg {c : Nat} {l : List Nat} {H : Hp} {Q : VK} (q : Q (.bl (decide (c ∈ l))) H) : rInSg (.str (mkS [c])) (.str (mkS l)) H Q := ⟨c, mkS l, rfl, rfl, q⟩
theorem notInSg {c : Nat} {l : List Nat} {H : Hp} {Q : VK} (q : Q (.bl (!decide (c ∈ l))) H) : rNotInSg (.str (mkS [c])) (.str (mkS l)) H Q := ⟨c, mkS l, rfl, rfl, q⟩
end Gx
namespace Gx
open PySem PySem.Spec PyProof.Rows L2
/-- list(xs) inside a comprehension -/
def rListQ (K : PySem.W.Frag) : List V → Hp → VK → Prop := fun xs H Q => ∃ p ys, xs = [.ref p] ∧ (SqL K H p ys ∨ SqT K H p ys) ∧ ∀ l, H l = none → Q (.ref l) (upd H l (.lst ys))
theorem cr_listQ {X : Cx} : CallR X (.type "list") (rListQ X.K) := call_list_of
end Gx
local macro_rules | `(tactic| walk_at "side") => `(tactic| first | assumption | omega | exact Gx.cmulR (by omega) (by omega) | exact Gx.cmulL (by omega) (by omega) | exact Gx.cdiv (by omega) (by omega) | exact Gx.cpow (by omega) (by omega) (by omega) | exact Gx.line (by omega) | exact Gx.lineL (by omega) | (simp only [List.length_append, List.length_take, List.length_drop, List.length_cons, List.length_nil, List.length_map, List.length_range, List.length_reverse]; omega) | exact Int.emod_nonneg _ (by omega) | exact Int.emod_lt_of_pos _ (by omega))
local macro_rules | `(tactic| walk_at "hp") => `(tactic| first | assumption | exact upd_same | exact SqL.of (by assumption) | exact SqT.of (by assumption) | exact SqL.of upd_same | exact SqT.of upd_same)
local macro_rules | `(tactic| walk_at "g1") => `(tactic| first
  | with_reducible refine Gx.seq ?_ | with_reducible refine Gx.nx ?_ | with_reducible refine Gx.asg ?_ | with_reducible refine Gx.op ?_
  | ((with_reducible refine' Gx.var ?ka ?kb); (case ka => exact rfl))
  | walk_at "con"
  | with_reducible refine Gx.con ?_ | with_reducible refine Gx.i0 ?_
  | ((with_reducible refine' Gx.i1 ?ka ?kb); (case ka => walk_at "side"))
  | with_reducible refine Gx.eqM ?_ | with_reducible refine Gx.neM ?_
  | with_reducible refine Gx.eqI ?_ | with_reducible refine Gx.eqS ?_ | with_reducible refine Gx.neI ?_ | with_reducible refine Gx.neS ?_ | with_reducible refine Gx.eqB ?_ | with_reducible refine Gx.isB ?_
  | ((with_reducible refine Gx.name ?_); try dsimp only [List.set])
  | with_reducible refine Gx.exb ?_ | with_reducible refine Gx.exi ?_ | with_reducible refine Gx.exs ?_ | with_reducible refine Gx.exr ?_
  | with_reducible refine Gx.test ?_ | with_reducible refine Gx.tB ?_ | with_reducible refine Gx.cb ?_ | with_reducible refine Gx.acons ?_ | with_reducible refine Gx.anil ?_
  | with_reducible refine Gx.call ?_ | with_reducible refine Gx.call0 ?_ | with_reducible refine Gx.callS ?_
  | with_reducible refine Gx.ifs ?_ | with_reducible refine Gx.ret ?_ | with_reducible refine Gx.rt ?_ | with_reducible refine Gx.next ?_ | with_reducible refine Gx.drop ?_
  | with_reducible refine Gx.not ?_ | with_reducible refine Gx.and ?_ | with_reducible refine Gx.or ?_ | with_reducible refine Gx.notV ?_ | with_reducible refine Gx.andV ?_ | with_reducible refine Gx.orV ?_ | with_reducible refine Gx.ifE ?_
  | with_reducible refine Gx.itT ?_ | with_reducible refine Gx.itF ?_ | with_reducible refine Gx.itNF ?_ | with_reducible refine Gx.itNT ?_ | with_reducible refine Gx.ittt ?_ | with_reducible refine Gx.itff ?_ | with_reducible refine Gx.itNtt ?_ | with_reducible refine Gx.itNff ?_
  | with_reducible refine Gx.sl ?_ | with_reducible refine Gx.nopart ?_ | with_reducible refine Gx.part ?_
  | ((with_reducible refine' Gx.sA ?ka ?kc ?kb); (case ka => walk_at "side"); (case kc => walk_at "side")) | ((with_reducible refine' Gx.sB ?ka ?kc ?kb); (case ka => walk_at "side"); (case kc => walk_at "side"))
  | ((with_reducible refine' Gx.sC ?ka ?kd ?kc ?kb); (case ka => walk_at "side"); (case kc => walk_at "side"); (case kd => walk_at "side"))
  | ((with_reducible refine' Gx.addM ?ka ?kb); (case ka => walk_at "side")) | ((with_reducible refine' Gx.lenM ?ka ?kb); (case ka => walk_at "side"))
  | ((with_reducible refine' Gx.ixM ?ka ?kd ?kc ?kb); (case ka => walk_at "side"); (case kc => walk_at "side"); (case kd => walk_at "side"))
  | with_reducible refine Gx.isNn ?_ | with_reducible refine Gx.isNi ?_ | with_reducible refine Gx.isNs ?_ | with_reducible refine Gx.isNb ?_ | with_reducible refine Gx.isNr ?_ | with_reducible refine Gx.notNn ?_ | with_reducible refine Gx.notNi ?_ | with_reducible refine Gx.notNs ?_ | with_reducible refine Gx.notNb ?_ | with_reducible refine Gx.notNr ?_
  | with_reducible refine Gx.sfld ?_ | with_reducible refine Gx.meth ?_ | with_reducible refine Gx.make ?_
  | with_reducible refine Gx.isi_ni ?_ | with_reducible refine Gx.isi_nb ?_ | with_reducible refine Gx.isi_ns ?_ | with_reducible refine Gx.isi_nl ?_ | with_reducible refine Gx.isi_nt ?_ | with_reducible refine Gx.isi_ii ?_
  | with_reducible refine Gx.isi_ib ?_ | with_reducible refine Gx.isi_is ?_ | with_reducible refine Gx.isi_il ?_ | with_reducible refine Gx.isi_it ?_ | with_reducible refine Gx.isi_si ?_ | with_reducible refine Gx.isi_sb ?_
  | with_reducible refine Gx.isi_ss ?_ | with_reducible refine Gx.isi_sl ?_ | with_reducible refine Gx.isi_st ?_ | with_reducible refine Gx.isi_bi ?_ | with_reducible refine Gx.isi_bb ?_ | with_reducible refine Gx.isi_bs ?_
  | with_reducible refine Gx.isi_bl ?_ | with_reducible refine Gx.isi_bt ?_ | ((with_reducible refine' Gx.isi_Li ?ka ?kb); (case ka => walk_at "hp")) | ((with_reducible refine' Gx.isi_Lb ?ka ?kb); (case ka => walk_at "hp")) | ((with_reducible refine' Gx.isi_Ls ?ka ?kb); (case ka => walk_at "hp")) | ((with_reducible refine' Gx.isi_Ll ?ka ?kb); (case ka => walk_at "hp"))
  | ((with_reducible refine' Gx.isi_Lt ?ka ?kb); (case ka => walk_at "hp")) | ((with_reducible refine' Gx.isi_Ti ?ka ?kb); (case ka => walk_at "hp")) | ((with_reducible refine' Gx.isi_Tb ?ka ?kb); (case ka => walk_at "hp")) | ((with_reducible refine' Gx.isi_Ts ?ka ?kb); (case ka => walk_at "hp")) | ((with_reducible refine' Gx.isi_Tl ?ka ?kb); (case ka => walk_at "hp")) | ((with_reducible refine' Gx.isi_Tt ?ka ?kb); (case ka => walk_at "hp"))
  | with_reducible refine Gx.strB ?_ | with_reducible refine Gx.prop ?_ | with_reducible refine Gx.callO ?_ | with_reducible refine Gx.methS ?_
  | with_reducible refine Gx.fld ?_ | with_reducible refine Gx.m1 ?_ | with_reducible refine Gx.isS ?_
  | ((with_reducible refine' Gx.slS ?ka ?kb); (case ka => walk_at "side"))
  | with_reducible refine Gx.un ?_ | with_reducible refine Gx.iu ?_
  | ((with_reducible refine' Gx.aug ?ka ?kb); (case ka => exact rfl)) | ((with_reducible refine Gx.ipi ?_); try dsimp only [List.set])
  | ((with_reducible refine' Gx.addS ?ka ?kb); (case ka => walk_at "side")) | ((with_reducible refine' Gx.lenS ?ka ?kb); (case ka => walk_at "side"))
  | ((with_reducible refine' Gx.lenLm ?ka ?kb); (case ka => walk_at "hp")) | ((with_reducible refine' Gx.lenTm ?ka ?kb); (case ka => walk_at "hp"))
  | ((with_reducible refine' Gx.ixLI ?ka ?kc ?kd ?kb); (case ka => walk_at "hp"); (case kc => walk_at "side"); (case kd => walk_at "side"))
  | ((with_reducible refine' Gx.ixT ?ka ?kc ?kb); (case ka => walk_at "hp"); (case kc => rfl))
  | ((with_reducible refine' Gx.lenL ?ka ?kb); (case ka => walk_at "hp")) | ((with_reducible refine' Gx.lenT ?ka ?kb); (case ka => walk_at "hp"))
  | with_reducible refine Gx.abs ?_ | with_reducible refine Gx.min2 ?_ | with_reducible refine Gx.max2 ?_ | with_reducible refine Gx.int1 ?_
  | with_reducible refine Gx.bm ?_ | with_reducible refine Gx.bm0 ?_ | ((with_reducible refine' Gx.tyL ?ka ?kb); (case ka => walk_at "hp"))
  | ((with_reducible refine' Gx.appI ?ka ?kc ?kb); (case ka => walk_at "hp"); (case kc => walk_at "side")) | ((with_reducible refine' Gx.appS ?ka ?kc ?kb); (case ka => walk_at "hp"); (case kc => walk_at "side")) | ((with_reducible refine' Gx.appR ?ka ?kc ?kb); (case ka => walk_at "hp"); (case kc => walk_at "side"))
  | ((with_reducible refine' Gx.app ?ka ?kc ?kb); (case ka => walk_at "hp"); (case kc => walk_at "side"))
  | with_reducible refine Gx.for_ ?_ | with_reducible refine Gx.rng1 ?_ | with_reducible refine Gx.rng2 ?_ | with_reducible refine Gx.ilst ?_ | with_reducible refine Gx.itup ?_ | with_reducible refine Gx.lc ?_ | with_reducible refine Gx.yes ?_
  | with_reducible refine Gx.isq ?_ | with_reducible refine Gx.din ?_ | with_reducible refine Gx.dnotin ?_ | with_reducible refine Gx.dget ?_ | with_reducible refine Gx.dput ?_ | with_reducible refine Gx.dnewK ?_ | with_reducible refine Gx.disp1 ?_ | with_reducible refine Gx.nin ?_ | with_reducible refine Gx.nnotin ?_ | with_reducible refine Gx.nget ?_ | with_reducible refine Gx.nput ?_ | with_reducible refine Gx.nnew ?_ | with_reducible refine Gx.dc ?_ | with_reducible refine Gx.kget ?_ | with_reducible refine Gx.ndisp ?_ | with_reducible refine Gx.izn ?_ | with_reducible refine Gx.inK ?_ | with_reducible refine Gx.inSg ?_ | with_reducible refine Gx.notInSg ?_ | with_reducible refine Gx.gsub ?_ | with_reducible refine Gx.neB ?_ | with_reducible refine Gx.istr ?_ | with_reducible refine Gx.boolB ?_ | with_reducible refine Gx.intB ?_ | with_reducible refine Gx.callN ?_ | with_reducible refine Gx.callNS ?_ | with_reducible refine Gx.lenSet ?_ | with_reducible refine Gx.listVals ?_
  | with_reducible refine Gx.tup ?_ | with_reducible refine Gx.lst ?_ | with_reducible refine Gx.retN ?_ | with_reducible refine Gx.brk ?_ | with_reducible refine Gx.cont ?_ | with_reducible refine Gx.bk ?_ | with_reducible refine Gx.ct ?_)
local macro_rules | `(tactic| walk_at "g") => `(tactic| repeat walk_at "g1")
namespace K03
open PySem PySem.Spec PyProof.Rows L2
def topS (i : Nat) : Stmt := PySem.Challenge.pw_textsputback_k03_signs_and_renamings.main.body.getD i (.Pass ⟨0, 0, 0, 0⟩)
theorem bt_abs : bootBuiltins "abs" = some (.builtin "abs") := by decide +kernel
theorem bt_bool : bootBuiltins "bool" = some (.type "bool") := by decide +kernel
theorem bt_int : bootBuiltins "int" = some (.type "int") := by decide +kernel
theorem bt_isinstance : bootBuiltins "isinstance" = some (.builtin "isinstance") := by decide +kernel
theorem bt_len : bootBuiltins "len" = some (.builtin "len") := by decide +kernel
theorem bt_list : bootBuiltins "list" = some (.type "list") := by decide +kernel
theorem bt_sorted : bootBuiltins "sorted" = some (.builtin "sorted") := by decide +kernel
theorem bt_str : bootBuiltins "str" = some (.type "str") := by decide +kernel
theorem bt_tuple : bootBuiltins "tuple" = some (.type "tuple") := by decide +kernel
theorem ks0 : Str.ofString "" = Gx.mkS [] := by decide +kernel
theorem ks1 : Str.ofString "word" = Gx.mkS [119, 111, 114, 100] := by decide +kernel
theorem ks2 : Str.ofString "one" = Gx.mkS [111, 110, 101] := by decide +kernel
theorem ks3 : Str.ofString "other" = Gx.mkS [111, 116, 104, 101, 114] := by decide +kernel
theorem ks4 : Str.ofString "none" = Gx.mkS [110, 111, 110, 101] := by decide +kernel
theorem ks5 : Str.ofString "truth" = Gx.mkS [116, 114, 117, 116, 104] := by decide +kernel
theorem ks6 : Str.ofString "number" = Gx.mkS [110, 117, 109, 98, 101, 114] := by decide +kernel
theorem ks7 : Str.ofString "text" = Gx.mkS [116, 101, 120, 116] := by decide +kernel
theorem ks8 : Str.ofString "list" = Gx.mkS [108, 105, 115, 116] := by decide +kernel
theorem ks9 : Str.ofString "tuple" = Gx.mkS [116, 117, 112, 108, 101] := by decide +kernel
theorem ks10 : Str.ofString " !\"#$&'()*+,-./0123456789<=>?@ABCDEFGHIJKLMNOPQRSTUVWXYZ[\\]^_`defghijklmnopqrstuvwxyz{|}~" = Gx.mkS [32, 33, 34, 35, 36, 38, 39, 40, 41, 42, 43, 44, 45, 46, 47, 48, 49, 50, 51, 52, 53, 54, 55, 56, 57, 60, 61, 62, 63, 64, 65, 66, 67, 68, 69, 70, 71, 72, 73, 74, 75, 76, 77, 78, 79, 80, 81, 82, 83, 84, 85, 86, 87, 88, 89, 90, 91, 92, 93, 94, 95, 96, 100, 101, 102, 103, 104, 105, 106, 107, 108, 109, 110, 111, 112, 113, 114, 115, 116, 117, 118, 119, 120, 121, 122, 123, 124, 125, 126] := by decide +kernel
theorem ks11 : Str.ofString ":;abc" = Gx.mkS [58, 59, 97, 98, 99] := by decide +kernel
theorem ks12 : Str.ofString "b" = Gx.mkS [98] := by decide +kernel
theorem ks13 : Str.ofString "star" = Gx.mkS [115, 116, 97, 114] := by decide +kernel
theorem ks14 : Str.ofString "seq" = Gx.mkS [115, 101, 113] := by decide +kernel
theorem ks15 : Str.ofString "alt" = Gx.mkS [97, 108, 116] := by decide +kernel
abbrev s_is_text : Stmt := topS 3
theorem st_is_text {x0 : V} : L2.start ["value", "char"] [x0] = [some x0, none] := rfl
theorem sc_is_text : FnScope ["value", "char"] ["value"] (defScope s_is_text) := ⟨rfl, rfl, rfl, by decide +kernel, rfl, by decide +kernel, by decide +kernel⟩
abbrev s_is_renaming : Stmt := topS 4
theorem st_is_renaming {x0 : V} : L2.start ["to"] [x0] = [some x0] := rfl
theorem sc_is_renaming : FnScope ["to"] ["to"] (defScope s_is_renaming) := ⟨rfl, rfl, rfl, by decide +kernel, rfl, by decide +kernel, by decide +kernel⟩
abbrev s_renamed : Stmt := topS 5
theorem st_renamed {x0 x1 : V} : L2.start ["text", "to", "char"] [x0, x1] = [some x0, some x1, none] := rfl
theorem sc_renamed : FnScope ["text", "to", "char"] ["text", "to"] (defScope s_renamed) := ⟨rfl, rfl, rfl, by decide +kernel, rfl, by decide +kernel, by decide +kernel⟩
abbrev s_renaming_back : Stmt := topS 6
theorem st_renaming_back {x0 : V} : L2.start ["to", "sign"] [x0] = [some x0, none] := rfl
theorem sc_renaming_back : FnScope ["to", "sign"] ["to"] (defScope s_renaming_back) := ⟨rfl, rfl, rfl, by decide +kernel, rfl, by decide +kernel, by decide +kernel⟩
abbrev s_TooMany_init : Stmt := inClass (topS 9) 0
theorem st_TooMany_init {x0 x1 : V} : L2.start ["self", "limit"] [x0, x1] = [some x0, some x1] := rfl
theorem sc_TooMany_init : FnScope ["self", "limit"] ["self", "limit"] (defScope s_TooMany_init) := ⟨rfl, rfl, rfl, by decide +kernel, rfl, by decide +kernel, by decide +kernel⟩
abbrev s_reached : Stmt := topS 12
theorem st_reached {x0 : V} : L2.start ["rows", "order", "seen", "at", "target"] [x0] = [some x0, none, none, none, none] := rfl
theorem sc_reached : FnScope ["rows", "order", "seen", "at", "target"] ["rows"] (defScope s_reached) := ⟨rfl, rfl, rfl, by decide +kernel, rfl, by decide +kernel, by decide +kernel⟩
abbrev s_refined : Stmt := topS 13
theorem st_refined {x0 x1 x2 : V} : L2.start ["rows", "order", "marks", "numbers", "finer", "state", "row", "sign", "target"] [x0, x1, x2] = [some x0, some x1, some x2, none, none, none, none, none, none] := rfl
theorem sc_refined : FnScope ["rows", "order", "marks", "numbers", "finer", "state", "row", "sign", "target"] ["rows", "order", "marks"] (defScope s_refined) := ⟨rfl, rfl, rfl, by decide +kernel, rfl, by decide +kernel, by decide +kernel⟩
abbrev s_classes : Stmt := topS 14
theorem st_classes {x0 x1 x2 : V} : L2.start ["rows", "finals", "order", "marks", "state", "many", "_", "step"] [x0, x1, x2] = [some x0, some x1, some x2, none, none, none, none, none] := rfl
theorem sc_classes : FnScope ["rows", "finals", "order", "marks", "state", "many", "_", "step"] ["rows", "finals", "order"] (defScope s_classes) := ⟨rfl, rfl, rfl, by decide +kernel, rfl, by decide +kernel, by decide +kernel⟩
abbrev s_least : Stmt := topS 15
theorem st_least {x0 x1 : V} : L2.start ["rows", "finals", "marks", "names", "picked", "least_rows", "at", "row", "target", "mark", "state"] [x0, x1] = [some x0, some x1, none, none, none, none, none, none, none, none, none] := rfl
theorem sc_least : FnScope ["rows", "finals", "marks", "names", "picked", "least_rows", "at", "row", "target", "mark", "state"] ["rows", "finals"] (defScope s_least) := ⟨rfl, rfl, rfl, by decide +kernel, rfl, by decide +kernel, by decide +kernel⟩
abbrev s_Machine_init : Stmt := inClass (topS 16) 0
theorem st_Machine_init {x0 x1 x2 : V} : L2.start ["self", "rows", "finals", "shape"] [x0, x1, x2] = [some x0, some x1, some x2, none] := rfl
theorem sc_Machine_init : FnScope ["self", "rows", "finals", "shape"] ["self", "rows", "finals"] (defScope s_Machine_init) := ⟨rfl, rfl, rfl, by decide +kernel, rfl, by decide +kernel, by decide +kernel⟩
abbrev s_Machine_states : Stmt := inClass (topS 16) 1
theorem st_Machine_states {x0 : V} : L2.start ["self"] [x0] = [some x0] := rfl
theorem sc_Machine_states : FnScope ["self"] ["self"] (defScope s_Machine_states) := ⟨rfl, rfl, rfl, by decide +kernel, rfl, by decide +kernel, by decide +kernel⟩
abbrev s_Machine_state_after : Stmt := inClass (topS 16) 2
theorem st_Machine_state_after {x0 x1 : V} : L2.start ["self", "text", "state", "char", "place"] [x0, x1] = [some x0, some x1, none, none, none] := rfl
theorem sc_Machine_state_after : FnScope ["self", "text", "state", "char", "place"] ["self", "text"] (defScope s_Machine_state_after) := ⟨rfl, rfl, rfl, by decide +kernel, rfl, by decide +kernel, by decide +kernel⟩
abbrev s_Machine_contains : Stmt := inClass (topS 16) 3
theorem st_Machine_contains {x0 x1 : V} : L2.start ["self", "text", "state"] [x0, x1] = [some x0, some x1, none] := rfl
theorem sc_Machine_contains : FnScope ["self", "text", "state"] ["self", "text"] (defScope s_Machine_contains) := ⟨rfl, rfl, rfl, by decide +kernel, rfl, by decide +kernel, by decide +kernel⟩
abbrev s_Machine_eq : Stmt := inClass (topS 16) 4
theorem st_Machine_eq {x0 x1 : V} : L2.start ["self", "other"] [x0, x1] = [some x0, some x1] := rfl
theorem sc_Machine_eq : FnScope ["self", "other"] ["self", "other"] (defScope s_Machine_eq) := ⟨rfl, rfl, rfl, by decide +kernel, rfl, by decide +kernel, by decide +kernel⟩
abbrev s_Machine_and : Stmt := inClass (topS 16) 5
theorem st_Machine_and {x0 x1 : V} : L2.start ["self", "other"] [x0, x1] = [some x0, some x1] := rfl
theorem sc_Machine_and : FnScope ["self", "other"] ["self", "other"] (defScope s_Machine_and) := ⟨rfl, rfl, rfl, by decide +kernel, rfl, by decide +kernel, by decide +kernel⟩
abbrev s_Machine_or : Stmt := inClass (topS 16) 6
theorem st_Machine_or {x0 x1 : V} : L2.start ["self", "other"] [x0, x1] = [some x0, some x1] := rfl
theorem sc_Machine_or : FnScope ["self", "other"] ["self", "other"] (defScope s_Machine_or) := ⟨rfl, rfl, rfl, by decide +kernel, rfl, by decide +kernel, by decide +kernel⟩
abbrev s_Machine_sub : Stmt := inClass (topS 16) 7
theorem st_Machine_sub {x0 x1 : V} : L2.start ["self", "other"] [x0, x1] = [some x0, some x1] := rfl
theorem sc_Machine_sub : FnScope ["self", "other"] ["self", "other"] (defScope s_Machine_sub) := ⟨rfl, rfl, rfl, by decide +kernel, rfl, by decide +kernel, by decide +kernel⟩
abbrev s_Machine_invert : Stmt := inClass (topS 16) 8
theorem st_Machine_invert {x0 : V} : L2.start ["self", "final"] [x0] = [some x0, none] := rfl
theorem sc_Machine_invert : FnScope ["self", "final"] ["self"] (defScope s_Machine_invert) := ⟨rfl, rfl, rfl, by decide +kernel, rfl, by decide +kernel, by decide +kernel⟩
abbrev s_decided : Stmt := topS 17
theorem st_decided {x0 x1 x2 : V} : L2.start ["one", "two", "rule"] [x0, x1, x2] = [some x0, some x1, some x2] := rfl
theorem sc_decided : FnScope ["one", "two", "rule"] ["one", "two", "rule"] (defScope s_decided) := ⟨rfl, rfl, rfl, by decide +kernel, rfl, by decide +kernel, by decide +kernel⟩
abbrev s_product : Stmt := topS 18
theorem st_product {x0 x1 x2 : V} : L2.start ["one", "two", "rule", "order", "seen", "rows", "finals", "at", "left", "right", "row", "pair"] [x0, x1, x2] = [some x0, some x1, some x2, none, none, none, none, none, none, none, none, none] := rfl
theorem sc_product : FnScope ["one", "two", "rule", "order", "seen", "rows", "finals", "at", "left", "right", "row", "pair"] ["one", "two", "rule"] (defScope s_product) := ⟨rfl, rfl, rfl, by decide +kernel, rfl, by decide +kernel, by decide +kernel⟩
abbrev s_renamed_language : Stmt := topS 20
theorem st_renamed_language {x0 x1 : V} : L2.start ["machine", "to", "rows", "row", "turned", "place"] [x0, x1] = [some x0, some x1, none, none, none, none] := rfl
theorem sc_renamed_language : FnScope ["machine", "to", "rows", "row", "turned", "place"] ["machine", "to"] (defScope s_renamed_language) := ⟨rfl, rfl, rfl, by decide +kernel, rfl, by decide +kernel, by decide +kernel⟩
abbrev s_renamed_pattern : Stmt := topS 22
theorem st_renamed_pattern {x0 x1 : V} : L2.start ["pattern", "to", "part"] [x0, x1] = [some x0, some x1, none] := rfl
theorem sc_renamed_pattern : FnScope ["pattern", "to", "part"] ["pattern", "to"] (defScope s_renamed_pattern) := ⟨rfl, rfl, rfl, by decide +kernel, rfl, by decide +kernel, by decide +kernel⟩
abbrev s__law_mix : Stmt := topS 24
theorem st__law_mix {x0 x1 : V} : L2.start ["cell", "k", "first", "second"] [x0, x1] = [some x0, some x1, none, none] := rfl
theorem sc__law_mix : FnScope ["cell", "k", "first", "second"] ["cell", "k"] (defScope s__law_mix) := ⟨rfl, rfl, rfl, by decide +kernel, rfl, by decide +kernel, by decide +kernel⟩
abbrev s__law_stream : Stmt := topS 25
theorem st__law_stream {x0 x1 : V} : L2.start ["script", "many", "rest", "found", "k", "cell"] [x0, x1] = [some x0, some x1, none, none, none, none] := rfl
theorem sc__law_stream : FnScope ["script", "many", "rest", "found", "k", "cell"] ["script", "many"] (defScope s__law_stream) := ⟨rfl, rfl, rfl, by decide +kernel, rfl, by decide +kernel, by decide +kernel⟩
abbrev s__law_pick : Stmt := topS 26
theorem st__law_pick {x0 x1 x2 : V} : L2.start ["numbers", "at", "many"] [x0, x1, x2] = [some x0, some x1, some x2] := rfl
theorem sc__law_pick : FnScope ["numbers", "at", "many"] ["numbers", "at", "many"] (defScope s__law_pick) := ⟨rfl, rfl, rfl, by decide +kernel, rfl, by decide +kernel, by decide +kernel⟩
abbrev s__law_kind : Stmt := topS 27
theorem st__law_kind {x0 : V} : L2.start ["value", "item"] [x0] = [some x0, none] := rfl
theorem sc__law_kind : FnScope ["value", "item"] ["value"] (defScope s__law_kind) := ⟨rfl, rfl, rfl, by decide +kernel, rfl, by decide +kernel, by decide +kernel⟩
abbrev s__law_same : Stmt := topS 28
theorem st__law_same {x0 x1 : V} : L2.start ["answer", "due"] [x0, x1] = [some x0, some x1] := rfl
theorem sc__law_same : FnScope ["answer", "due"] ["answer", "due"] (defScope s__law_same) := ⟨rfl, rfl, rfl, by decide +kernel, rfl, by decide +kernel, by decide +kernel⟩
abbrev s__law_says : Stmt := topS 29
theorem st__law_says {x0 x1 : V} : L2.start ["answer", "due"] [x0, x1] = [some x0, some x1] := rfl
theorem sc__law_says : FnScope ["answer", "due"] ["answer", "due"] (defScope s__law_says) := ⟨rfl, rfl, rfl, by decide +kernel, rfl, by decide +kernel, by decide +kernel⟩
abbrev s__law_foreign : Stmt := topS 30
theorem st__law_foreign : L2.start [] [] = [] := rfl
theorem sc__law_foreign : FnScope [] [] (defScope s__law_foreign) := ⟨rfl, rfl, rfl, by decide +kernel, rfl, by decide +kernel, by decide +kernel⟩
abbrev s__law_char : Stmt := topS 31
theorem st__law_char {x0 x1 x2 : V} : L2.start ["numbers", "at", "chars", "number"] [x0, x1, x2] = [some x0, some x1, some x2, none] := rfl
theorem sc__law_char : FnScope ["numbers", "at", "chars", "number"] ["numbers", "at", "chars"] (defScope s__law_char) := ⟨rfl, rfl, rfl, by decide +kernel, rfl, by decide +kernel, by decide +kernel⟩
abbrev s__law_renaming : Stmt := topS 32
theorem st__law_renaming {x0 x1 : V} : L2.start ["numbers", "at", "left", "to", "k", "place"] [x0, x1] = [some x0, some x1, none, none, none, none] := rfl
theorem sc__law_renaming : FnScope ["numbers", "at", "left", "to", "k", "place"] ["numbers", "at"] (defScope s__law_renaming) := ⟨rfl, rfl, rfl, by decide +kernel, rfl, by decide +kernel, by decide +kernel⟩
abbrev s__law_signs : Stmt := topS 33
theorem st__law_signs {x0 : V} : L2.start ["number", "found", "k"] [x0] = [some x0, none, none] := rfl
theorem sc__law_signs : FnScope ["number", "found", "k"] ["number"] (defScope s__law_signs) := ⟨rfl, rfl, rfl, by decide +kernel, rfl, by decide +kernel, by decide +kernel⟩
abbrev s__law_leaf : Stmt := topS 34
theorem st__law_leaf {x0 x1 : V} : L2.start ["numbers", "at", "size", "k"] [x0, x1] = [some x0, some x1, none, none] := rfl
theorem sc__law_leaf : FnScope ["numbers", "at", "size", "k"] ["numbers", "at"] (defScope s__law_leaf) := ⟨rfl, rfl, rfl, by decide +kernel, rfl, by decide +kernel, by decide +kernel⟩
abbrev s__law_pattern : Stmt := topS 35
theorem st__law_pattern {x0 x1 : V} : L2.start ["numbers", "at", "pattern", "k", "kind", "leaf"] [x0, x1] = [some x0, some x1, none, none, none, none] := rfl
theorem sc__law_pattern : FnScope ["numbers", "at", "pattern", "k", "kind", "leaf"] ["numbers", "at"] (defScope s__law_pattern) := ⟨rfl, rfl, rfl, by decide +kernel, rfl, by decide +kernel, by decide +kernel⟩
abbrev s__law_turned : Stmt := topS 36
theorem st__law_turned {x0 x1 : V} : L2.start ["text", "to", "sign"] [x0, x1] = [some x0, some x1, none] := rfl
theorem sc__law_turned : FnScope ["text", "to", "sign"] ["text", "to"] (defScope s__law_turned) := ⟨rfl, rfl, rfl, by decide +kernel, rfl, by decide +kernel, by decide +kernel⟩
abbrev s__law_turned_pattern : Stmt := topS 37
theorem st__law_turned_pattern {x0 x1 : V} : L2.start ["pattern", "to", "sign", "part"] [x0, x1] = [some x0, some x1, none, none] := rfl
theorem sc__law_turned_pattern : FnScope ["pattern", "to", "sign", "part"] ["pattern", "to"] (defScope s__law_turned_pattern) := ⟨rfl, rfl, rfl, by decide +kernel, rfl, by decide +kernel, by decide +kernel⟩
abbrev s__law_apart : Stmt := topS 38
theorem st__law_apart {x0 x1 : V} : L2.start ["rows", "finals", "many", "apart", "q", "p", "turn", "changed", "hits", "k"] [x0, x1] = [some x0, some x1, none, none, none, none, none, none, none, none] := rfl
theorem sc__law_apart : FnScope ["rows", "finals", "many", "apart", "q", "p", "turn", "changed", "hits", "k"] ["rows", "finals"] (defScope s__law_apart) := ⟨rfl, rfl, rfl, by decide +kernel, rfl, by decide +kernel, by decide +kernel⟩
abbrev s__law_least : Stmt := topS 39
theorem st__law_least {x0 x1 : V} : L2.start ["rows", "finals", "apart", "heads", "q", "p", "joined", "target", "row", "order", "k", "due_rows", "state"] [x0, x1] = [some x0, some x1, none, none, none, none, none, none, none, none, none, none, none] := rfl
theorem sc__law_least : FnScope ["rows", "finals", "apart", "heads", "q", "p", "joined", "target", "row", "order", "k", "due_rows", "state"] ["rows", "finals"] (defScope s__law_least) := ⟨rfl, rfl, rfl, by decide +kernel, rfl, by decide +kernel, by decide +kernel⟩
abbrev s__law_is_machine : Stmt := topS 40
theorem st__law_is_machine {x0 x1 : V} : L2.start ["machine", "due", "row", "target", "final"] [x0, x1] = [some x0, some x1, none, none, none] := rfl
theorem sc__law_is_machine : FnScope ["machine", "due", "row", "target", "final"] ["machine", "due"] (defScope s__law_is_machine) := ⟨rfl, rfl, rfl, by decide +kernel, rfl, by decide +kernel, by decide +kernel⟩
abbrev s__law_texts_told : Stmt := topS 41
theorem st__law_texts_told {x0 x1 : V} : L2.start ["text", "numbers", "foreign", "at", "char", "free", "k", "strings", "value", "one", "others", "sign"] [x0, x1] = [some x0, some x1, none, none, none, none, none, none, none, none, none, none] := rfl
theorem sc__law_texts_told : FnScope ["text", "numbers", "foreign", "at", "char", "free", "k", "strings", "value", "one", "others", "sign"] ["text", "numbers"] (defScope s__law_texts_told) := ⟨rfl, rfl, rfl, by decide +kernel, rfl, by decide +kernel, by decide +kernel⟩
abbrev s__law_renamings_told : Stmt := topS 42
theorem st__law_renamings_told {x0 x1 : V} : L2.start ["to", "numbers", "at", "sign", "char", "drawn", "k", "strings", "word", "due", "one"] [x0, x1] = [some x0, some x1, none, none, none, none, none, none, none, none, none] := rfl
theorem sc__law_renamings_told : FnScope ["to", "numbers", "at", "sign", "char", "drawn", "k", "strings", "word", "due", "one"] ["to", "numbers"] (defScope s__law_renamings_told) := ⟨rfl, rfl, rfl, by decide +kernel, rfl, by decide +kernel, by decide +kernel⟩
abbrev s__law_language_told : Stmt := topS 43
theorem st__law_language_told {x0 x1 x2 x3 : V} : L2.start ["text", "to", "numbers", "first", "base", "rows", "k", "state", "finals", "machine", "row", "answer", "due", "sign"] [x0, x1, x2, x3] = [some x0, some x1, some x2, some x3, none, none, none, none, none, none, none, none, none, none] := rfl
theorem sc__law_language_told : FnScope ["text", "to", "numbers", "first", "base", "rows", "k", "state", "finals", "machine", "row", "answer", "due", "sign"] ["text", "to", "numbers", "first"] (defScope s__law_language_told) := ⟨rfl, rfl, rfl, by decide +kernel, rfl, by decide +kernel, by decide +kernel⟩
abbrev s_law : Stmt := topS 44
theorem st_law {x0 : V} : L2.start ["script", "numbers", "to", "size", "text", "k", "due", "back", "sign", "pattern"] [x0] = [some x0, none, none, none, none, none, none, none, none, none] := rfl
theorem sc_law : FnScope ["script", "numbers", "to", "size", "text", "k", "due", "back", "sign", "pattern"] ["script"] (defScope s_law) := ⟨rfl, rfl, rfl, by decide +kernel, rfl, by decide +kernel, by decide +kernel⟩
structure Txt (K : PySem.W.Frag) (mg : Str → Option Value) (w : World) where
  a_LensError : Addr
  g_LensError : mg "LensError" = some (.ref a_LensError)
  k_LensError : PySem.W.keepIn K (.ref a_LensError) = true
  x_LensError : PySem.W.excIn K a_LensError [.type "ValueError", .type "Exception", .type "BaseException", .type "object"] "ValueError.__new__" = true
  bP_LensError : PySem.W.subIn K (.ref a_LensError) (.type "BaseException") = some true
  tP_LensError : PySem.W.typeIn K (.ref a_LensError) = some (.type "type")
  iP_LensError : PySem.W.isClsIn K a_LensError = true
  a_Machine : Addr
  g_Machine : mg "Machine" = some (.ref a_Machine)
  k_Machine : PySem.W.keepIn K (.ref a_Machine) = true
  c_Machine : Cls K a_Machine
  n_Machine_rows : NoAttr K a_Machine "rows"
  n_Machine_finals : NoAttr K a_Machine "finals"
  ha_Machine : PySem.W.findIn K (.ref a_Machine) "__class__" = some (some (.builtin "object.__class__"))
  hm_Machine : PySem.W.mroIn K a_Machine (.type "object") = some true
  hn_ : PySem.W.specialIn K (.builtin "object.__class__") "__get__" = some (some (.builtin "getset_descriptor.__get__"))
  htk_ : PySem.W.takesIn K (.builtin "object.__class__") = some true
  f_is_text : Addr
  fd_is_text : FuncData
  F_is_text : Fun K "is_text" "is_text" s_is_text f_is_text fd_is_text
  b_is_text : Binds K fd_is_text ["value"] []
  g_is_text : mg "is_text" = some (.ref f_is_text)
  f_is_renaming : Addr
  fd_is_renaming : FuncData
  F_is_renaming : Fun K "is_renaming" "is_renaming" s_is_renaming f_is_renaming fd_is_renaming
  b_is_renaming : Binds K fd_is_renaming ["to"] []
  g_is_renaming : mg "is_renaming" = some (.ref f_is_renaming)
  f_renamed : Addr
  fd_renamed : FuncData
  F_renamed : Fun K "renamed" "renamed" s_renamed f_renamed fd_renamed
  b_renamed : Binds K fd_renamed ["text", "to"] []
  g_renamed : mg "renamed" = some (.ref f_renamed)
  f_renaming_back : Addr
  fd_renaming_back : FuncData
  F_renaming_back : Fun K "renaming_back" "renaming_back" s_renaming_back f_renaming_back fd_renaming_back
  b_renaming_back : Binds K fd_renaming_back ["to"] []
  g_renaming_back : mg "renaming_back" = some (.ref f_renaming_back)
  f_reached : Addr
  fd_reached : FuncData
  F_reached : Fun K "reached" "reached" s_reached f_reached fd_reached
  b_reached : Binds K fd_reached ["rows"] []
  g_reached : mg "reached" = some (.ref f_reached)
  f_refined : Addr
  fd_refined : FuncData
  F_refined : Fun K "refined" "refined" s_refined f_refined fd_refined
  b_refined : Binds K fd_refined ["rows", "order", "marks"] []
  g_refined : mg "refined" = some (.ref f_refined)
  f_classes : Addr
  fd_classes : FuncData
  F_classes : Fun K "classes" "classes" s_classes f_classes fd_classes
  b_classes : Binds K fd_classes ["rows", "finals", "order"] []
  g_classes : mg "classes" = some (.ref f_classes)
  f_least : Addr
  fd_least : FuncData
  F_least : Fun K "least" "least" s_least f_least fd_least
  b_least : Binds K fd_least ["rows", "finals"] []
  g_least : mg "least" = some (.ref f_least)
  f_Machine_init : Addr
  fd_Machine_init : FuncData
  F_Machine_init : Fun K "__init__" "Machine.__init__" s_Machine_init f_Machine_init fd_Machine_init
  b_Machine_init : Binds K fd_Machine_init ["self", "rows", "finals"] []
  m_Machine_init : Meth K a_Machine "__init__" f_Machine_init
  M_Machine : Mk K a_Machine f_Machine_init
  f_Machine_states : Addr
  fd_Machine_states : FuncData
  F_Machine_states : Fun K "states" "Machine.states" s_Machine_states f_Machine_states fd_Machine_states
  b_Machine_states : Binds K fd_Machine_states ["self"] []
  p_Machine_states : Addr
  pr_Machine_states : PropOf K a_Machine "states" p_Machine_states f_Machine_states
  f_Machine_state_after : Addr
  fd_Machine_state_after : FuncData
  F_Machine_state_after : Fun K "state_after" "Machine.state_after" s_Machine_state_after f_Machine_state_after fd_Machine_state_after
  b_Machine_state_after : Binds K fd_Machine_state_after ["self", "text"] []
  m_Machine_state_after : Meth K a_Machine "state_after" f_Machine_state_after
  f_Machine_contains : Addr
  fd_Machine_contains : FuncData
  F_Machine_contains : Fun K "__contains__" "Machine.__contains__" s_Machine_contains f_Machine_contains fd_Machine_contains
  b_Machine_contains : Binds K fd_Machine_contains ["self", "text"] []
  m_Machine_contains : Meth K a_Machine "__contains__" f_Machine_contains
  f_Machine_eq : Addr
  fd_Machine_eq : FuncData
  F_Machine_eq : Fun K "__eq__" "Machine.__eq__" s_Machine_eq f_Machine_eq fd_Machine_eq
  b_Machine_eq : Binds K fd_Machine_eq ["self", "other"] []
  m_Machine_eq : Meth K a_Machine "__eq__" f_Machine_eq
  f_renamed_language : Addr
  fd_renamed_language : FuncData
  F_renamed_language : Fun K "renamed_language" "renamed_language" s_renamed_language f_renamed_language fd_renamed_language
  b_renamed_language : Binds K fd_renamed_language ["machine", "to"] []
  g_renamed_language : mg "renamed_language" = some (.ref f_renamed_language)
  f_renamed_pattern : Addr
  fd_renamed_pattern : FuncData
  F_renamed_pattern : Fun K "renamed_pattern" "renamed_pattern" s_renamed_pattern f_renamed_pattern fd_renamed_pattern
  b_renamed_pattern : Binds K fd_renamed_pattern ["pattern", "to"] []
  g_renamed_pattern : mg "renamed_pattern" = some (.ref f_renamed_pattern)
  f__law_mix : Addr
  fd__law_mix : FuncData
  F__law_mix : Fun K "_law_mix" "_law_mix" s__law_mix f__law_mix fd__law_mix
  b__law_mix : Binds K fd__law_mix ["cell", "k"] []
  g__law_mix : mg "_law_mix" = some (.ref f__law_mix)
  f__law_stream : Addr
  fd__law_stream : FuncData
  F__law_stream : Fun K "_law_stream" "_law_stream" s__law_stream f__law_stream fd__law_stream
  b__law_stream : Binds K fd__law_stream ["script", "many"] []
  g__law_stream : mg "_law_stream" = some (.ref f__law_stream)
  f__law_pick : Addr
  fd__law_pick : FuncData
  F__law_pick : Fun K "_law_pick" "_law_pick" s__law_pick f__law_pick fd__law_pick
  b__law_pick : Binds K fd__law_pick ["numbers", "at", "many"] []
  g__law_pick : mg "_law_pick" = some (.ref f__law_pick)
  f__law_kind : Addr
  fd__law_kind : FuncData
  F__law_kind : Fun K "_law_kind" "_law_kind" s__law_kind f__law_kind fd__law_kind
  b__law_kind : Binds K fd__law_kind ["value"] []
  g__law_kind : mg "_law_kind" = some (.ref f__law_kind)
  f__law_same : Addr
  fd__law_same : FuncData
  F__law_same : Fun K "_law_same" "_law_same" s__law_same f__law_same fd__law_same
  b__law_same : Binds K fd__law_same ["answer", "due"] []
  g__law_same : mg "_law_same" = some (.ref f__law_same)
  f__law_says : Addr
  fd__law_says : FuncData
  F__law_says : Fun K "_law_says" "_law_says" s__law_says f__law_says fd__law_says
  b__law_says : Binds K fd__law_says ["answer", "due"] []
  g__law_says : mg "_law_says" = some (.ref f__law_says)
  f__law_foreign : Addr
  fd__law_foreign : FuncData
  F__law_foreign : Fun K "_law_foreign" "_law_foreign" s__law_foreign f__law_foreign fd__law_foreign
  b__law_foreign : Binds K fd__law_foreign [] []
  g__law_foreign : mg "_law_foreign" = some (.ref f__law_foreign)
  f__law_char : Addr
  fd__law_char : FuncData
  F__law_char : Fun K "_law_char" "_law_char" s__law_char f__law_char fd__law_char
  b__law_char : Binds K fd__law_char ["numbers", "at", "chars"] []
  g__law_char : mg "_law_char" = some (.ref f__law_char)
  f__law_renaming : Addr
  fd__law_renaming : FuncData
  F__law_renaming : Fun K "_law_renaming" "_law_renaming" s__law_renaming f__law_renaming fd__law_renaming
  b__law_renaming : Binds K fd__law_renaming ["numbers", "at"] []
  g__law_renaming : mg "_law_renaming" = some (.ref f__law_renaming)
  f__law_signs : Addr
  fd__law_signs : FuncData
  F__law_signs : Fun K "_law_signs" "_law_signs" s__law_signs f__law_signs fd__law_signs
  b__law_signs : Binds K fd__law_signs ["number"] []
  g__law_signs : mg "_law_signs" = some (.ref f__law_signs)
  f__law_leaf : Addr
  fd__law_leaf : FuncData
  F__law_leaf : Fun K "_law_leaf" "_law_leaf" s__law_leaf f__law_leaf fd__law_leaf
  b__law_leaf : Binds K fd__law_leaf ["numbers", "at"] []
  g__law_leaf : mg "_law_leaf" = some (.ref f__law_leaf)
  f__law_pattern : Addr
  fd__law_pattern : FuncData
  F__law_pattern : Fun K "_law_pattern" "_law_pattern" s__law_pattern f__law_pattern fd__law_pattern
  b__law_pattern : Binds K fd__law_pattern ["numbers", "at"] []
  g__law_pattern : mg "_law_pattern" = some (.ref f__law_pattern)
  f__law_turned : Addr
  fd__law_turned : FuncData
  F__law_turned : Fun K "_law_turned" "_law_turned" s__law_turned f__law_turned fd__law_turned
  b__law_turned : Binds K fd__law_turned ["text", "to"] []
  g__law_turned : mg "_law_turned" = some (.ref f__law_turned)
  f__law_turned_pattern : Addr
  fd__law_turned_pattern : FuncData
  F__law_turned_pattern : Fun K "_law_turned_pattern" "_law_turned_pattern" s__law_turned_pattern f__law_turned_pattern fd__law_turned_pattern
  b__law_turned_pattern : Binds K fd__law_turned_pattern ["pattern", "to"] []
  g__law_turned_pattern : mg "_law_turned_pattern" = some (.ref f__law_turned_pattern)
  f__law_apart : Addr
  fd__law_apart : FuncData
  F__law_apart : Fun K "_law_apart" "_law_apart" s__law_apart f__law_apart fd__law_apart
  b__law_apart : Binds K fd__law_apart ["rows", "finals"] []
  g__law_apart : mg "_law_apart" = some (.ref f__law_apart)
  f__law_least : Addr
  fd__law_least : FuncData
  F__law_least : Fun K "_law_least" "_law_least" s__law_least f__law_least fd__law_least
  b__law_least : Binds K fd__law_least ["rows", "finals"] []
  g__law_least : mg "_law_least" = some (.ref f__law_least)
  f__law_is_machine : Addr
  fd__law_is_machine : FuncData
  F__law_is_machine : Fun K "_law_is_machine" "_law_is_machine" s__law_is_machine f__law_is_machine fd__law_is_machine
  b__law_is_machine : Binds K fd__law_is_machine ["machine", "due"] []
  g__law_is_machine : mg "_law_is_machine" = some (.ref f__law_is_machine)
  f__law_texts_told : Addr
  fd__law_texts_told : FuncData
  F__law_texts_told : Fun K "_law_texts_told" "_law_texts_told" s__law_texts_told f__law_texts_told fd__law_texts_told
  b__law_texts_told : Binds K fd__law_texts_told ["text", "numbers"] []
  g__law_texts_told : mg "_law_texts_told" = some (.ref f__law_texts_told)
  f__law_renamings_told : Addr
  fd__law_renamings_told : FuncData
  F__law_renamings_told : Fun K "_law_renamings_told" "_law_renamings_told" s__law_renamings_told f__law_renamings_told fd__law_renamings_told
  b__law_renamings_told : Binds K fd__law_renamings_told ["to", "numbers"] []
  g__law_renamings_told : mg "_law_renamings_told" = some (.ref f__law_renamings_told)
  f__law_language_told : Addr
  fd__law_language_told : FuncData
  F__law_language_told : Fun K "_law_language_told" "_law_language_told" s__law_language_told f__law_language_told fd__law_language_told
  b__law_language_told : Binds K fd__law_language_told ["text", "to", "numbers", "first"] []
  g__law_language_told : mg "_law_language_told" = some (.ref f__law_language_told)
  f_law : Addr
  fd_law : FuncData
  F_law : Fun K "law" "law" s_law f_law fd_law
  b_law : Binds K fd_law ["script"] []
  g_law : mg "law" = some (.ref f_law)
  bt_law : ∀ (s : Shared) (v : Value), BindsTo s fd_law ⟨[v], []⟩ [("script", v)]
  z_abs : mg "abs" = none
  z_bool : mg "bool" = none
  z_int : mg "int" = none
  z_isinstance : mg "isinstance" = none
  z_len : mg "len" = none
  z_list : mg "list" = none
  z_range : mg "range" = none
  z_sorted : mg "sorted" = none
  z_str : mg "str" = none
  z_tuple : mg "tuple" = none
  tk_MOST_STATES : Tok
  g_MOST_STATES : mg "MOST_STATES" = some (.int 100 tk_MOST_STATES)
  tk_SIGNS : Tok
  g_SIGNS : mg "SIGNS" = some (.str (Str.ofString ":;abc") tk_SIGNS)
  a_PLACES : Addr
  g_PLACES : mg "PLACES" = some (.ref a_PLACES)
  kd_PLACES : Gx.KIv K w a_PLACES [(":", 0), (";", 1), ("a", 2), ("b", 3), ("c", 4)]
theorem txt_mk {K : PySem.W.Frag} {h : Heap} {mg : Str → Option Value} {w : World} (X : K.In h) (G : h.Ns mainGlobals mg) {a_LensError a_Machine f_is_text f_is_renaming f_renamed f_renaming_back f_reached f_refined f_classes f_least f_Machine_init f_Machine_states p_Machine_states f_Machine_state_after f_Machine_contains f_Machine_eq f_renamed_language f_renamed_pattern f__law_mix f__law_stream f__law_pick f__law_kind f__law_same f__law_says f__law_foreign f__law_char f__law_renaming f__law_signs f__law_leaf f__law_pattern f__law_turned f__law_turned_pattern f__law_apart f__law_least f__law_is_machine f__law_texts_told f__law_renamings_told f__law_language_told f_law a_PLACES : Addr}
    {oc_is_text kV_is_text dc_is_text pm_is_text cd_is_text ct_is_text : Value} {od_is_text an_is_text : Option Addr} {sl_is_text : Array (Option Value)} {oc_is_renaming kV_is_renaming dc_is_renaming pm_is_renaming cd_is_renaming ct_is_renaming : Value} {od_is_renaming an_is_renaming : Option Addr} {sl_is_renaming : Array (Option Value)} {oc_renamed kV_renamed dc_renamed pm_renamed cd_renamed ct_renamed : Value} {od_renamed an_renamed : Option Addr} {sl_renamed : Array (Option Value)} {oc_renaming_back kV_renaming_back dc_renaming_back pm_renaming_back cd_renaming_back ct_renaming_back : Value} {od_renaming_back an_renaming_back : Option Addr} {sl_renaming_back : Array (Option Value)} {oc_reached kV_reached dc_reached pm_reached cd_reached ct_reached : Value} {od_reached an_reached : Option Addr} {sl_reached : Array (Option Value)} {oc_refined kV_refined dc_refined pm_refined cd_refined ct_refined : Value} {od_refined an_refined : Option Addr} {sl_refined : Array (Option Value)} {oc_classes kV_classes dc_classes pm_classes cd_classes ct_classes : Value} {od_classes an_classes : Option Addr} {sl_classes : Array (Option Value)} {oc_least kV_least dc_least pm_least cd_least ct_least : Value} {od_least an_least : Option Addr} {sl_least : Array (Option Value)} {oc_Machine_init kV_Machine_init dc_Machine_init pm_Machine_init cd_Machine_init ct_Machine_init : Value} {od_Machine_init an_Machine_init : Option Addr} {sl_Machine_init : Array (Option Value)} {pe_Machine_states : List Value} {oc_Machine_states kV_Machine_states dc_Machine_states pm_Machine_states cd_Machine_states ct_Machine_states : Value} {od_Machine_states an_Machine_states : Option Addr} {sl_Machine_states : Array (Option Value)} {oc_Machine_state_after kV_Machine_state_after dc_Machine_state_after pm_Machine_state_after cd_Machine_state_after ct_Machine_state_after : Value} {od_Machine_state_after an_Machine_state_after : Option Addr} {sl_Machine_state_after : Array (Option Value)} {oc_Machine_contains kV_Machine_contains dc_Machine_contains pm_Machine_contains cd_Machine_contains ct_Machine_contains : Value} {od_Machine_contains an_Machine_contains : Option Addr} {sl_Machine_contains : Array (Option Value)} {oc_Machine_eq kV_Machine_eq dc_Machine_eq pm_Machine_eq cd_Machine_eq ct_Machine_eq : Value} {od_Machine_eq an_Machine_eq : Option Addr} {sl_Machine_eq : Array (Option Value)} {oc_renamed_language kV_renamed_language dc_renamed_language pm_renamed_language cd_renamed_language ct_renamed_language : Value} {od_renamed_language an_renamed_language : Option Addr} {sl_renamed_language : Array (Option Value)} {oc_renamed_pattern kV_renamed_pattern dc_renamed_pattern pm_renamed_pattern cd_renamed_pattern ct_renamed_pattern : Value} {od_renamed_pattern an_renamed_pattern : Option Addr} {sl_renamed_pattern : Array (Option Value)} {oc__law_mix kV__law_mix dc__law_mix pm__law_mix cd__law_mix ct__law_mix : Value} {od__law_mix an__law_mix : Option Addr} {sl__law_mix : Array (Option Value)} {oc__law_stream kV__law_stream dc__law_stream pm__law_stream cd__law_stream ct__law_stream : Value} {od__law_stream an__law_stream : Option Addr} {sl__law_stream : Array (Option Value)} {oc__law_pick kV__law_pick dc__law_pick pm__law_pick cd__law_pick ct__law_pick : Value} {od__law_pick an__law_pick : Option Addr} {sl__law_pick : Array (Option Value)} {oc__law_kind kV__law_kind dc__law_kind pm__law_kind cd__law_kind ct__law_kind : Value} {od__law_kind an__law_kind : Option Addr} {sl__law_kind : Array (Option Value)} {oc__law_same kV__law_same dc__law_same pm__law_same cd__law_same ct__law_same : Value} {od__law_same an__law_same : Option Addr} {sl__law_same : Array (Option Value)} {oc__law_says kV__law_says dc__law_says pm__law_says cd__law_says ct__law_says : Value} {od__law_says an__law_says : Option Addr} {sl__law_says : Array (Option Value)} {oc__law_foreign kV__law_foreign dc__law_foreign pm__law_foreign cd__law_foreign ct__law_foreign : Value} {od__law_foreign an__law_foreign : Option Addr} {sl__law_foreign : Array (Option Value)} {oc__law_char kV__law_char dc__law_char pm__law_char cd__law_char ct__law_char : Value} {od__law_char an__law_char : Option Addr} {sl__law_char : Array (Option Value)} {oc__law_renaming kV__law_renaming dc__law_renaming pm__law_renaming cd__law_renaming ct__law_renaming : Value} {od__law_renaming an__law_renaming : Option Addr} {sl__law_renaming : Array (Option Value)} {oc__law_signs kV__law_signs dc__law_signs pm__law_signs cd__law_signs ct__law_signs : Value} {od__law_signs an__law_signs : Option Addr} {sl__law_signs : Array (Option Value)} {oc__law_leaf kV__law_leaf dc__law_leaf pm__law_leaf cd__law_leaf ct__law_leaf : Value} {od__law_leaf an__law_leaf : Option Addr} {sl__law_leaf : Array (Option Value)} {oc__law_pattern kV__law_pattern dc__law_pattern pm__law_pattern cd__law_pattern ct__law_pattern : Value} {od__law_pattern an__law_pattern : Option Addr} {sl__law_pattern : Array (Option Value)} {oc__law_turned kV__law_turned dc__law_turned pm__law_turned cd__law_turned ct__law_turned : Value} {od__law_turned an__law_turned : Option Addr} {sl__law_turned : Array (Option Value)} {oc__law_turned_pattern kV__law_turned_pattern dc__law_turned_pattern pm__law_turned_pattern cd__law_turned_pattern ct__law_turned_pattern : Value} {od__law_turned_pattern an__law_turned_pattern : Option Addr} {sl__law_turned_pattern : Array (Option Value)} {oc__law_apart kV__law_apart dc__law_apart pm__law_apart cd__law_apart ct__law_apart : Value} {od__law_apart an__law_apart : Option Addr} {sl__law_apart : Array (Option Value)} {oc__law_least kV__law_least dc__law_least pm__law_least cd__law_least ct__law_least : Value} {od__law_least an__law_least : Option Addr} {sl__law_least : Array (Option Value)} {oc__law_is_machine kV__law_is_machine dc__law_is_machine pm__law_is_machine cd__law_is_machine ct__law_is_machine : Value} {od__law_is_machine an__law_is_machine : Option Addr} {sl__law_is_machine : Array (Option Value)} {oc__law_texts_told kV__law_texts_told dc__law_texts_told pm__law_texts_told cd__law_texts_told ct__law_texts_told : Value} {od__law_texts_told an__law_texts_told : Option Addr} {sl__law_texts_told : Array (Option Value)} {oc__law_renamings_told kV__law_renamings_told dc__law_renamings_told pm__law_renamings_told cd__law_renamings_told ct__law_renamings_told : Value} {od__law_renamings_told an__law_renamings_told : Option Addr} {sl__law_renamings_told : Array (Option Value)} {oc__law_language_told kV__law_language_told dc__law_language_told pm__law_language_told cd__law_language_told ct__law_language_told : Value} {od__law_language_told an__law_language_told : Option Addr} {sl__law_language_told : Array (Option Value)} {oc_law kV_law dc_law pm_law cd_law ct_law : Value} {od_law an_law : Option Addr} {sl_law : Array (Option Value)} {tkx_MOST_STATES : Tok} {tkx_SIGNS : Tok}
    (ga_LensError : PySem.W.nsIn K mainGlobals "LensError" = some (some (.ref a_LensError)))
    (k_LensError : PySem.W.keepIn K (.ref a_LensError) = true)
    (x_LensError : PySem.W.excIn K a_LensError [.type "ValueError", .type "Exception", .type "BaseException", .type "object"] "ValueError.__new__" = true)
    (bP_LensError : PySem.W.subIn K (.ref a_LensError) (.type "BaseException") = some true)
    (tP_LensError : PySem.W.typeIn K (.ref a_LensError) = some (.type "type"))
    (iP_LensError : PySem.W.isClsIn K a_LensError = true)
    (ga_Machine : PySem.W.nsIn K mainGlobals "Machine" = some (some (.ref a_Machine)))
    (k_Machine : PySem.W.keepIn K (.ref a_Machine) = true)
    (pg_Machine : PySem.W.plainGet K a_Machine Str.empty = true)
    (hd_Machine : PySem.W.hasDictIn K a_Machine = true)
    (po_Machine : PySem.W.plainOver K a_Machine = true)
    (sa_Machine : PySem.W.findIn K (.ref a_Machine) "__setattr__" = some (some (.builtin "object.__setattr__")))
    (mk_Machine : PySem.W.makesIn K a_Machine = true)
    (n_Machine_rows : PySem.W.findIn K (.ref a_Machine) "rows" = some none)
    (n_Machine_finals : PySem.W.findIn K (.ref a_Machine) "finals" = some none)
    (ha_Machine : PySem.W.findIn K (.ref a_Machine) "__class__" = some (some (.builtin "object.__class__")))
    (hm_Machine : PySem.W.mroIn K a_Machine (.type "object") = some true)
    (hn_ : PySem.W.specialIn K (.builtin "object.__class__") "__get__" = some (some (.builtin "getset_descriptor.__get__")))
    (htk_ : PySem.W.takesIn K (.builtin "object.__class__") = some true)
    (ga_is_text : PySem.W.nsIn K mainGlobals "is_text" = some (some (.ref f_is_text)))
    (l_is_text : K.lookup f_is_text = some ⟨oc_is_text, od_is_text, .func (PySem.W.fnOf "is_text" "is_text" (defArgs s_is_text) (defBody s_is_text) (defScope s_is_text) .none kV_is_text dc_is_text pm_is_text an_is_text cd_is_text ct_is_text), sl_is_text⟩)
    (cc_is_text : PySem.W.codeIn K cd_is_text "is_text" = true)
    (k_is_text : PySem.W.keepIn K (.ref f_is_text) = true)
    (ga_is_renaming : PySem.W.nsIn K mainGlobals "is_renaming" = some (some (.ref f_is_renaming)))
    (l_is_renaming : K.lookup f_is_renaming = some ⟨oc_is_renaming, od_is_renaming, .func (PySem.W.fnOf "is_renaming" "is_renaming" (defArgs s_is_renaming) (defBody s_is_renaming) (defScope s_is_renaming) .none kV_is_renaming dc_is_renaming pm_is_renaming an_is_renaming cd_is_renaming ct_is_renaming), sl_is_renaming⟩)
    (cc_is_renaming : PySem.W.codeIn K cd_is_renaming "is_renaming" = true)
    (k_is_renaming : PySem.W.keepIn K (.ref f_is_renaming) = true)
    (ga_renamed : PySem.W.nsIn K mainGlobals "renamed" = some (some (.ref f_renamed)))
    (l_renamed : K.lookup f_renamed = some ⟨oc_renamed, od_renamed, .func (PySem.W.fnOf "renamed" "renamed" (defArgs s_renamed) (defBody s_renamed) (defScope s_renamed) .none kV_renamed dc_renamed pm_renamed an_renamed cd_renamed ct_renamed), sl_renamed⟩)
    (cc_renamed : PySem.W.codeIn K cd_renamed "renamed" = true)
    (k_renamed : PySem.W.keepIn K (.ref f_renamed) = true)
    (ga_renaming_back : PySem.W.nsIn K mainGlobals "renaming_back" = some (some (.ref f_renaming_back)))
    (l_renaming_back : K.lookup f_renaming_back = some ⟨oc_renaming_back, od_renaming_back, .func (PySem.W.fnOf "renaming_back" "renaming_back" (defArgs s_renaming_back) (defBody s_renaming_back) (defScope s_renaming_back) .none kV_renaming_back dc_renaming_back pm_renaming_back an_renaming_back cd_renaming_back ct_renaming_back), sl_renaming_back⟩)
    (cc_renaming_back : PySem.W.codeIn K cd_renaming_back "renaming_back" = true)
    (k_renaming_back : PySem.W.keepIn K (.ref f_renaming_back) = true)
    (ga_reached : PySem.W.nsIn K mainGlobals "reached" = some (some (.ref f_reached)))
    (l_reached : K.lookup f_reached = some ⟨oc_reached, od_reached, .func (PySem.W.fnOf "reached" "reached" (defArgs s_reached) (defBody s_reached) (defScope s_reached) .none kV_reached dc_reached pm_reached an_reached cd_reached ct_reached), sl_reached⟩)
    (cc_reached : PySem.W.codeIn K cd_reached "reached" = true)
    (k_reached : PySem.W.keepIn K (.ref f_reached) = true)
    (ga_refined : PySem.W.nsIn K mainGlobals "refined" = some (some (.ref f_refined)))
    (l_refined : K.lookup f_refined = some ⟨oc_refined, od_refined, .func (PySem.W.fnOf "refined" "refined" (defArgs s_refined) (defBody s_refined) (defScope s_refined) .none kV_refined dc_refined pm_refined an_refined cd_refined ct_refined), sl_refined⟩)
    (cc_refined : PySem.W.codeIn K cd_refined "refined" = true)
    (k_refined : PySem.W.keepIn K (.ref f_refined) = true)
    (ga_classes : PySem.W.nsIn K mainGlobals "classes" = some (some (.ref f_classes)))
    (l_classes : K.lookup f_classes = some ⟨oc_classes, od_classes, .func (PySem.W.fnOf "classes" "classes" (defArgs s_classes) (defBody s_classes) (defScope s_classes) .none kV_classes dc_classes pm_classes an_classes cd_classes ct_classes), sl_classes⟩)
    (cc_classes : PySem.W.codeIn K cd_classes "classes" = true)
    (k_classes : PySem.W.keepIn K (.ref f_classes) = true)
    (ga_least : PySem.W.nsIn K mainGlobals "least" = some (some (.ref f_least)))
    (l_least : K.lookup f_least = some ⟨oc_least, od_least, .func (PySem.W.fnOf "least" "least" (defArgs s_least) (defBody s_least) (defScope s_least) .none kV_least dc_least pm_least an_least cd_least ct_least), sl_least⟩)
    (cc_least : PySem.W.codeIn K cd_least "least" = true)
    (k_least : PySem.W.keepIn K (.ref f_least) = true)
    (ga_Machine_init : PySem.W.findIn K (.ref a_Machine) "__init__" = some (some (.ref f_Machine_init)))
    (i_Machine_init : PySem.W.isFn K (.ref f_Machine_init) = true)
    (l_Machine_init : K.lookup f_Machine_init = some ⟨oc_Machine_init, od_Machine_init, .func (PySem.W.fnOf "__init__" "Machine.__init__" (defArgs s_Machine_init) (defBody s_Machine_init) (defScope s_Machine_init) .none kV_Machine_init dc_Machine_init pm_Machine_init an_Machine_init cd_Machine_init ct_Machine_init), sl_Machine_init⟩)
    (cc_Machine_init : PySem.W.codeIn K cd_Machine_init "Machine.__init__" = true)
    (k_Machine_init : PySem.W.keepIn K (.ref f_Machine_init) = true)
    (pa_Machine_states : PySem.W.findIn K (.ref a_Machine) "states" = some (some (.ref p_Machine_states)))
    (pb_Machine_states : PySem.W.specialIn K (.ref p_Machine_states) "__get__" = some (some (.builtin "property.__get__")))
    (pc_Machine_states : PySem.W.takesIn K (.ref p_Machine_states) = some true)
    (pd_Machine_states : PySem.W.recIn K p_Machine_states "property" = some (.ref f_Machine_states :: pe_Machine_states))
    (l_Machine_states : K.lookup f_Machine_states = some ⟨oc_Machine_states, od_Machine_states, .func (PySem.W.fnOf "states" "Machine.states" (defArgs s_Machine_states) (defBody s_Machine_states) (defScope s_Machine_states) .none kV_Machine_states dc_Machine_states pm_Machine_states an_Machine_states cd_Machine_states ct_Machine_states), sl_Machine_states⟩)
    (cc_Machine_states : PySem.W.codeIn K cd_Machine_states "Machine.states" = true)
    (k_Machine_states : PySem.W.keepIn K (.ref f_Machine_states) = true)
    (ga_Machine_state_after : PySem.W.findIn K (.ref a_Machine) "state_after" = some (some (.ref f_Machine_state_after)))
    (i_Machine_state_after : PySem.W.isFn K (.ref f_Machine_state_after) = true)
    (l_Machine_state_after : K.lookup f_Machine_state_after = some ⟨oc_Machine_state_after, od_Machine_state_after, .func (PySem.W.fnOf "state_after" "Machine.state_after" (defArgs s_Machine_state_after) (defBody s_Machine_state_after) (defScope s_Machine_state_after) .none kV_Machine_state_after dc_Machine_state_after pm_Machine_state_after an_Machine_state_after cd_Machine_state_after ct_Machine_state_after), sl_Machine_state_after⟩)
    (cc_Machine_state_after : PySem.W.codeIn K cd_Machine_state_after "Machine.state_after" = true)
    (k_Machine_state_after : PySem.W.keepIn K (.ref f_Machine_state_after) = true)
    (ga_Machine_contains : PySem.W.findIn K (.ref a_Machine) "__contains__" = some (some (.ref f_Machine_contains)))
    (i_Machine_contains : PySem.W.isFn K (.ref f_Machine_contains) = true)
    (l_Machine_contains : K.lookup f_Machine_contains = some ⟨oc_Machine_contains, od_Machine_contains, .func (PySem.W.fnOf "__contains__" "Machine.__contains__" (defArgs s_Machine_contains) (defBody s_Machine_contains) (defScope s_Machine_contains) .none kV_Machine_contains dc_Machine_contains pm_Machine_contains an_Machine_contains cd_Machine_contains ct_Machine_contains), sl_Machine_contains⟩)
    (cc_Machine_contains : PySem.W.codeIn K cd_Machine_contains "Machine.__contains__" = true)
    (k_Machine_contains : PySem.W.keepIn K (.ref f_Machine_contains) = true)
    (ga_Machine_eq : PySem.W.findIn K (.ref a_Machine) "__eq__" = some (some (.ref f_Machine_eq)))
    (i_Machine_eq : PySem.W.isFn K (.ref f_Machine_eq) = true)
    (l_Machine_eq : K.lookup f_Machine_eq = some ⟨oc_Machine_eq, od_Machine_eq, .func (PySem.W.fnOf "__eq__" "Machine.__eq__" (defArgs s_Machine_eq) (defBody s_Machine_eq) (defScope s_Machine_eq) .none kV_Machine_eq dc_Machine_eq pm_Machine_eq an_Machine_eq cd_Machine_eq ct_Machine_eq), sl_Machine_eq⟩)
    (cc_Machine_eq : PySem.W.codeIn K cd_Machine_eq "Machine.__eq__" = true)
    (k_Machine_eq : PySem.W.keepIn K (.ref f_Machine_eq) = true)
    (ga_renamed_language : PySem.W.nsIn K mainGlobals "renamed_language" = some (some (.ref f_renamed_language)))
    (l_renamed_language : K.lookup f_renamed_language = some ⟨oc_renamed_language, od_renamed_language, .func (PySem.W.fnOf "renamed_language" "renamed_language" (defArgs s_renamed_language) (defBody s_renamed_language) (defScope s_renamed_language) .none kV_renamed_language dc_renamed_language pm_renamed_language an_renamed_language cd_renamed_language ct_renamed_language), sl_renamed_language⟩)
    (cc_renamed_language : PySem.W.codeIn K cd_renamed_language "renamed_language" = true)
    (k_renamed_language : PySem.W.keepIn K (.ref f_renamed_language) = true)
    (ga_renamed_pattern : PySem.W.nsIn K mainGlobals "renamed_pattern" = some (some (.ref f_renamed_pattern)))
    (l_renamed_pattern : K.lookup f_renamed_pattern = some ⟨oc_renamed_pattern, od_renamed_pattern, .func (PySem.W.fnOf "renamed_pattern" "renamed_pattern" (defArgs s_renamed_pattern) (defBody s_renamed_pattern) (defScope s_renamed_pattern) .none kV_renamed_pattern dc_renamed_pattern pm_renamed_pattern an_renamed_pattern cd_renamed_pattern ct_renamed_pattern), sl_renamed_pattern⟩)
    (cc_renamed_pattern : PySem.W.codeIn K cd_renamed_pattern "renamed_pattern" = true)
    (k_renamed_pattern : PySem.W.keepIn K (.ref f_renamed_pattern) = true)
    (ga__law_mix : PySem.W.nsIn K mainGlobals "_law_mix" = some (some (.ref f__law_mix)))
    (l__law_mix : K.lookup f__law_mix = some ⟨oc__law_mix, od__law_mix, .func (PySem.W.fnOf "_law_mix" "_law_mix" (defArgs s__law_mix) (defBody s__law_mix) (defScope s__law_mix) .none kV__law_mix dc__law_mix pm__law_mix an__law_mix cd__law_mix ct__law_mix), sl__law_mix⟩)
    (cc__law_mix : PySem.W.codeIn K cd__law_mix "_law_mix" = true)
    (k__law_mix : PySem.W.keepIn K (.ref f__law_mix) = true)
    (ga__law_stream : PySem.W.nsIn K mainGlobals "_law_stream" = some (some (.ref f__law_stream)))
    (l__law_stream : K.lookup f__law_stream = some ⟨oc__law_stream, od__law_stream, .func (PySem.W.fnOf "_law_stream" "_law_stream" (defArgs s__law_stream) (defBody s__law_stream) (defScope s__law_stream) .none kV__law_stream dc__law_stream pm__law_stream an__law_stream cd__law_stream ct__law_stream), sl__law_stream⟩)
    (cc__law_stream : PySem.W.codeIn K cd__law_stream "_law_stream" = true)
    (k__law_stream : PySem.W.keepIn K (.ref f__law_stream) = true)
    (ga__law_pick : PySem.W.nsIn K mainGlobals "_law_pick" = some (some (.ref f__law_pick)))
    (l__law_pick : K.lookup f__law_pick = some ⟨oc__law_pick, od__law_pick, .func (PySem.W.fnOf "_law_pick" "_law_pick" (defArgs s__law_pick) (defBody s__law_pick) (defScope s__law_pick) .none kV__law_pick dc__law_pick pm__law_pick an__law_pick cd__law_pick ct__law_pick), sl__law_pick⟩)
    (cc__law_pick : PySem.W.codeIn K cd__law_pick "_law_pick" = true)
    (k__law_pick : PySem.W.keepIn K (.ref f__law_pick) = true)
    (ga__law_kind : PySem.W.nsIn K mainGlobals "_law_kind" = some (some (.ref f__law_kind)))
    (l__law_kind : K.lookup f__law_kind = some ⟨oc__law_kind, od__law_kind, .func (PySem.W.fnOf "_law_kind" "_law_kind" (defArgs s__law_kind) (defBody s__law_kind) (defScope s__law_kind) .none kV__law_kind dc__law_kind pm__law_kind an__law_kind cd__law_kind ct__law_kind), sl__law_kind⟩)
    (cc__law_kind : PySem.W.codeIn K cd__law_kind "_law_kind" = true)
    (k__law_kind : PySem.W.keepIn K (.ref f__law_kind) = true)
    (ga__law_same : PySem.W.nsIn K mainGlobals "_law_same" = some (some (.ref f__law_same)))
    (l__law_same : K.lookup f__law_same = some ⟨oc__law_same, od__law_same, .func (PySem.W.fnOf "_law_same" "_law_same" (defArgs s__law_same) (defBody s__law_same) (defScope s__law_same) .none kV__law_same dc__law_same pm__law_same an__law_same cd__law_same ct__law_same), sl__law_same⟩)
    (cc__law_same : PySem.W.codeIn K cd__law_same "_law_same" = true)
    (k__law_same : PySem.W.keepIn K (.ref f__law_same) = true)
    (ga__law_says : PySem.W.nsIn K mainGlobals "_law_says" = some (some (.ref f__law_says)))
    (l__law_says : K.lookup f__law_says = some ⟨oc__law_says, od__law_says, .func (PySem.W.fnOf "_law_says" "_law_says" (defArgs s__law_says) (defBody s__law_says) (defScope s__law_says) .none kV__law_says dc__law_says pm__law_says an__law_says cd__law_says ct__law_says), sl__law_says⟩)
    (cc__law_says : PySem.W.codeIn K cd__law_says "_law_says" = true)
    (k__law_says : PySem.W.keepIn K (.ref f__law_says) = true)
    (ga__law_foreign : PySem.W.nsIn K mainGlobals "_law_foreign" = some (some (.ref f__law_foreign)))
    (l__law_foreign : K.lookup f__law_foreign = some ⟨oc__law_foreign, od__law_foreign, .func (PySem.W.fnOf "_law_foreign" "_law_foreign" (defArgs s__law_foreign) (defBody s__law_foreign) (defScope s__law_foreign) .none kV__law_foreign dc__law_foreign pm__law_foreign an__law_foreign cd__law_foreign ct__law_foreign), sl__law_foreign⟩)
    (cc__law_foreign : PySem.W.codeIn K cd__law_foreign "_law_foreign" = true)
    (k__law_foreign : PySem.W.keepIn K (.ref f__law_foreign) = true)
    (ga__law_char : PySem.W.nsIn K mainGlobals "_law_char" = some (some (.ref f__law_char)))
    (l__law_char : K.lookup f__law_char = some ⟨oc__law_char, od__law_char, .func (PySem.W.fnOf "_law_char" "_law_char" (defArgs s__law_char) (defBody s__law_char) (defScope s__law_char) .none kV__law_char dc__law_char pm__law_char an__law_char cd__law_char ct__law_char), sl__law_char⟩)
    (cc__law_char : PySem.W.codeIn K cd__law_char "_law_char" = true)
    (k__law_char : PySem.W.keepIn K (.ref f__law_char) = true)
    (ga__law_renaming : PySem.W.nsIn K mainGlobals "_law_renaming" = some (some (.ref f__law_renaming)))
    (l__law_renaming : K.lookup f__law_renaming = some ⟨oc__law_renaming, od__law_renaming, .func (PySem.W.fnOf "_law_renaming" "_law_renaming" (defArgs s__law_renaming) (defBody s__law_renaming) (defScope s__law_renaming) .none kV__law_renaming dc__law_renaming pm__law_renaming an__law_renaming cd__law_renaming ct__law_renaming), sl__law_renaming⟩)
    (cc__law_renaming : PySem.W.codeIn K cd__law_renaming "_law_renaming" = true)
    (k__law_renaming : PySem.W.keepIn K (.ref f__law_renaming) = true)
    (ga__law_signs : PySem.W.nsIn K mainGlobals "_law_signs" = some (some (.ref f__law_signs)))
    (l__law_signs : K.lookup f__law_signs = some ⟨oc__law_signs, od__law_signs, .func (PySem.W.fnOf "_law_signs" "_law_signs" (defArgs s__law_signs) (defBody s__law_signs) (defScope s__law_signs) .none kV__law_signs dc__law_signs pm__law_signs an__law_signs cd__law_signs ct__law_signs), sl__law_signs⟩)
    (cc__law_signs : PySem.W.codeIn K cd__law_signs "_law_signs" = true)
    (k__law_signs : PySem.W.keepIn K (.ref f__law_signs) = true)
    (ga__law_leaf : PySem.W.nsIn K mainGlobals "_law_leaf" = some (some (.ref f__law_leaf)))
    (l__law_leaf : K.lookup f__law_leaf = some ⟨oc__law_leaf, od__law_leaf, .func (PySem.W.fnOf "_law_leaf" "_law_leaf" (defArgs s__law_leaf) (defBody s__law_leaf) (defScope s__law_leaf) .none kV__law_leaf dc__law_leaf pm__law_leaf an__law_leaf cd__law_leaf ct__law_leaf), sl__law_leaf⟩)
    (cc__law_leaf : PySem.W.codeIn K cd__law_leaf "_law_leaf" = true)
    (k__law_leaf : PySem.W.keepIn K (.ref f__law_leaf) = true)
    (ga__law_pattern : PySem.W.nsIn K mainGlobals "_law_pattern" = some (some (.ref f__law_pattern)))
    (l__law_pattern : K.lookup f__law_pattern = some ⟨oc__law_pattern, od__law_pattern, .func (PySem.W.fnOf "_law_pattern" "_law_pattern" (defArgs s__law_pattern) (defBody s__law_pattern) (defScope s__law_pattern) .none kV__law_pattern dc__law_pattern pm__law_pattern an__law_pattern cd__law_pattern ct__law_pattern), sl__law_pattern⟩)
    (cc__law_pattern : PySem.W.codeIn K cd__law_pattern "_law_pattern" = true)
    (k__law_pattern : PySem.W.keepIn K (.ref f__law_pattern) = true)
    (ga__law_turned : PySem.W.nsIn K mainGlobals "_law_turned" = some (some (.ref f__law_turned)))
    (l__law_turned : K.lookup f__law_turned = some ⟨oc__law_turned, od__law_turned, .func (PySem.W.fnOf "_law_turned" "_law_turned" (defArgs s__law_turned) (defBody s__law_turned) (defScope s__law_turned) .none kV__law_turned dc__law_turned pm__law_turned an__law_turned cd__law_turned ct__law_turned), sl__law_turned⟩)
    (cc__law_turned : PySem.W.codeIn K cd__law_turned "_law_turned" = true)
    (k__law_turned : PySem.W.keepIn K (.ref f__law_turned) = true)
    (ga__law_turned_pattern : PySem.W.nsIn K mainGlobals "_law_turned_pattern" = some (some (.ref f__law_turned_pattern)))
    (l__law_turned_pattern : K.lookup f__law_turned_pattern = some ⟨oc__law_turned_pattern, od__law_turned_pattern, .func (PySem.W.fnOf "_law_turned_pattern" "_law_turned_pattern" (defArgs s__law_turned_pattern) (defBody s__law_turned_pattern) (defScope s__law_turned_pattern) .none kV__law_turned_pattern dc__law_turned_pattern pm__law_turned_pattern an__law_turned_pattern cd__law_turned_pattern ct__law_turned_pattern), sl__law_turned_pattern⟩)
    (cc__law_turned_pattern : PySem.W.codeIn K cd__law_turned_pattern "_law_turned_pattern" = true)
    (k__law_turned_pattern : PySem.W.keepIn K (.ref f__law_turned_pattern) = true)
    (ga__law_apart : PySem.W.nsIn K mainGlobals "_law_apart" = some (some (.ref f__law_apart)))
    (l__law_apart : K.lookup f__law_apart = some ⟨oc__law_apart, od__law_apart, .func (PySem.W.fnOf "_law_apart" "_law_apart" (defArgs s__law_apart) (defBody s__law_apart) (defScope s__law_apart) .none kV__law_apart dc__law_apart pm__law_apart an__law_apart cd__law_apart ct__law_apart), sl__law_apart⟩)
    (cc__law_apart : PySem.W.codeIn K cd__law_apart "_law_apart" = true)
    (k__law_apart : PySem.W.keepIn K (.ref f__law_apart) = true)
    (ga__law_least : PySem.W.nsIn K mainGlobals "_law_least" = some (some (.ref f__law_least)))
    (l__law_least : K.lookup f__law_least = some ⟨oc__law_least, od__law_least, .func (PySem.W.fnOf "_law_least" "_law_least" (defArgs s__law_least) (defBody s__law_least) (defScope s__law_least) .none kV__law_least dc__law_least pm__law_least an__law_least cd__law_least ct__law_least), sl__law_least⟩)
    (cc__law_least : PySem.W.codeIn K cd__law_least "_law_least" = true)
    (k__law_least : PySem.W.keepIn K (.ref f__law_least) = true)
    (ga__law_is_machine : PySem.W.nsIn K mainGlobals "_law_is_machine" = some (some (.ref f__law_is_machine)))
    (l__law_is_machine : K.lookup f__law_is_machine = some ⟨oc__law_is_machine, od__law_is_machine, .func (PySem.W.fnOf "_law_is_machine" "_law_is_machine" (defArgs s__law_is_machine) (defBody s__law_is_machine) (defScope s__law_is_machine) .none kV__law_is_machine dc__law_is_machine pm__law_is_machine an__law_is_machine cd__law_is_machine ct__law_is_machine), sl__law_is_machine⟩)
    (cc__law_is_machine : PySem.W.codeIn K cd__law_is_machine "_law_is_machine" = true)
    (k__law_is_machine : PySem.W.keepIn K (.ref f__law_is_machine) = true)
    (ga__law_texts_told : PySem.W.nsIn K mainGlobals "_law_texts_told" = some (some (.ref f__law_texts_told)))
    (l__law_texts_told : K.lookup f__law_texts_told = some ⟨oc__law_texts_told, od__law_texts_told, .func (PySem.W.fnOf "_law_texts_told" "_law_texts_told" (defArgs s__law_texts_told) (defBody s__law_texts_told) (defScope s__law_texts_told) .none kV__law_texts_told dc__law_texts_told pm__law_texts_told an__law_texts_told cd__law_texts_told ct__law_texts_told), sl__law_texts_told⟩)
    (cc__law_texts_told : PySem.W.codeIn K cd__law_texts_told "_law_texts_told" = true)
    (k__law_texts_told : PySem.W.keepIn K (.ref f__law_texts_told) = true)
    (ga__law_renamings_told : PySem.W.nsIn K mainGlobals "_law_renamings_told" = some (some (.ref f__law_renamings_told)))
    (l__law_renamings_told : K.lookup f__law_renamings_told = some ⟨oc__law_renamings_told, od__law_renamings_told, .func (PySem.W.fnOf "_law_renamings_told" "_law_renamings_told" (defArgs s__law_renamings_told) (defBody s__law_renamings_told) (defScope s__law_renamings_told) .none kV__law_renamings_told dc__law_renamings_told pm__law_renamings_told an__law_renamings_told cd__law_renamings_told ct__law_renamings_told), sl__law_renamings_told⟩)
    (cc__law_renamings_told : PySem.W.codeIn K cd__law_renamings_told "_law_renamings_told" = true)
    (k__law_renamings_told : PySem.W.keepIn K (.ref f__law_renamings_told) = true)
    (ga__law_language_told : PySem.W.nsIn K mainGlobals "_law_language_told" = some (some (.ref f__law_language_told)))
    (l__law_language_told : K.lookup f__law_language_told = some ⟨oc__law_language_told, od__law_language_told, .func (PySem.W.fnOf "_law_language_told" "_law_language_told" (defArgs s__law_language_told) (defBody s__law_language_told) (defScope s__law_language_told) .none kV__law_language_told dc__law_language_told pm__law_language_told an__law_language_told cd__law_language_told ct__law_language_told), sl__law_language_told⟩)
    (cc__law_language_told : PySem.W.codeIn K cd__law_language_told "_law_language_told" = true)
    (k__law_language_told : PySem.W.keepIn K (.ref f__law_language_told) = true)
    (ga_law : PySem.W.nsIn K mainGlobals "law" = some (some (.ref f_law)))
    (l_law : K.lookup f_law = some ⟨oc_law, od_law, .func (PySem.W.fnOf "law" "law" (defArgs s_law) (defBody s_law) (defScope s_law) .none kV_law dc_law pm_law an_law cd_law ct_law), sl_law⟩)
    (cc_law : PySem.W.codeIn K cd_law "law" = true)
    (k_law : PySem.W.keepIn K (.ref f_law) = true)
    (zz_abs : PySem.W.nsIn K mainGlobals "abs" = some none)
    (zz_bool : PySem.W.nsIn K mainGlobals "bool" = some none)
    (zz_int : PySem.W.nsIn K mainGlobals "int" = some none)
    (zz_isinstance : PySem.W.nsIn K mainGlobals "isinstance" = some none)
    (zz_len : PySem.W.nsIn K mainGlobals "len" = some none)
    (zz_list : PySem.W.nsIn K mainGlobals "list" = some none)
    (zz_range : PySem.W.nsIn K mainGlobals "range" = some none)
    (zz_sorted : PySem.W.nsIn K mainGlobals "sorted" = some none)
    (zz_str : PySem.W.nsIn K mainGlobals "str" = some none)
    (zz_tuple : PySem.W.nsIn K mainGlobals "tuple" = some none)
    (ga_MOST_STATES : PySem.W.nsIn K mainGlobals "MOST_STATES" = some (some (.int 100 tkx_MOST_STATES)))
    (ga_SIGNS : PySem.W.nsIn K mainGlobals "SIGNS" = some (some (.str (Str.ofString ":;abc") tkx_SIGNS)))
    (ga_PLACES : PySem.W.nsIn K mainGlobals "PLACES" = some (some (.ref a_PLACES)))
    (dw_PLACES : He.dicW K a_PLACES = some (He.keysIn w.params ([":", ";", "a", "b", "c"] : List Str)))
    (di_PLACES : Gx.intsW K a_PLACES = some ([(":", 0), (";", 1), ("a", 2), ("b", 3), ("c", 4)] : List (Str × Int)))
    {fa : Addr} (hfa : mg "law" = some (.ref fa)) : ∃ T : Txt K mg w, T.f_law = fa := by
  have e := hfa.symm.trans (PySem.W.mg_of X G ga_law)
  cases e
  exact ⟨{
      a_LensError := a_LensError,
      g_LensError := PySem.W.mg_of X G ga_LensError,
      k_LensError := k_LensError,
      x_LensError := x_LensError,
      bP_LensError := bP_LensError,
      tP_LensError := tP_LensError,
      iP_LensError := iP_LensError,
      a_Machine := a_Machine,
      g_Machine := PySem.W.mg_of X G ga_Machine,
      k_Machine := k_Machine,
      c_Machine := ⟨pg_Machine, hd_Machine, po_Machine, sa_Machine⟩,
      n_Machine_rows := n_Machine_rows,
      n_Machine_finals := n_Machine_finals,
      ha_Machine := ha_Machine,
      hm_Machine := hm_Machine,
      hn_ := hn_,
      htk_ := htk_,
      g_is_text := PySem.W.mg_of X G ga_is_text,
      f_is_text := f_is_text,
      fd_is_text := _,
      F_is_text := fun_mk (st := s_is_text) l_is_text cc_is_text k_is_text,
      b_is_text := (fun_mk (st := s_is_text) l_is_text cc_is_text k_is_text).binds (ps := ["value"]) fun _ _ _ _ _ _ us hl => match us, hl with | [_], _ => rfl,
      g_is_renaming := PySem.W.mg_of X G ga_is_renaming,
      f_is_renaming := f_is_renaming,
      fd_is_renaming := _,
      F_is_renaming := fun_mk (st := s_is_renaming) l_is_renaming cc_is_renaming k_is_renaming,
      b_is_renaming := (fun_mk (st := s_is_renaming) l_is_renaming cc_is_renaming k_is_renaming).binds (ps := ["to"]) fun _ _ _ _ _ _ us hl => match us, hl with | [_], _ => rfl,
      g_renamed := PySem.W.mg_of X G ga_renamed,
      f_renamed := f_renamed,
      fd_renamed := _,
      F_renamed := fun_mk (st := s_renamed) l_renamed cc_renamed k_renamed,
      b_renamed := (fun_mk (st := s_renamed) l_renamed cc_renamed k_renamed).binds (ps := ["text", "to"]) fun _ _ _ _ _ _ us hl => match us, hl with | [_, _], _ => rfl,
      g_renaming_back := PySem.W.mg_of X G ga_renaming_back,
      f_renaming_back := f_renaming_back,
      fd_renaming_back := _,
      F_renaming_back := fun_mk (st := s_renaming_back) l_renaming_back cc_renaming_back k_renaming_back,
      b_renaming_back := (fun_mk (st := s_renaming_back) l_renaming_back cc_renaming_back k_renaming_back).binds (ps := ["to"]) fun _ _ _ _ _ _ us hl => match us, hl with | [_], _ => rfl,
      g_reached := PySem.W.mg_of X G ga_reached,
      f_reached := f_reached,
      fd_reached := _,
      F_reached := fun_mk (st := s_reached) l_reached cc_reached k_reached,
      b_reached := (fun_mk (st := s_reached) l_reached cc_reached k_reached).binds (ps := ["rows"]) fun _ _ _ _ _ _ us hl => match us, hl with | [_], _ => rfl,
      g_refined := PySem.W.mg_of X G ga_refined,
      f_refined := f_refined,
      fd_refined := _,
      F_refined := fun_mk (st := s_refined) l_refined cc_refined k_refined,
      b_refined := (fun_mk (st := s_refined) l_refined cc_refined k_refined).binds (ps := ["rows", "order", "marks"]) fun _ _ _ _ _ _ us hl => match us, hl with | [_, _, _], _ => rfl,
      g_classes := PySem.W.mg_of X G ga_classes,
      f_classes := f_classes,
      fd_classes := _,
      F_classes := fun_mk (st := s_classes) l_classes cc_classes k_classes,
      b_classes := (fun_mk (st := s_classes) l_classes cc_classes k_classes).binds (ps := ["rows", "finals", "order"]) fun _ _ _ _ _ _ us hl => match us, hl with | [_, _, _], _ => rfl,
      g_least := PySem.W.mg_of X G ga_least,
      f_least := f_least,
      fd_least := _,
      F_least := fun_mk (st := s_least) l_least cc_least k_least,
      b_least := (fun_mk (st := s_least) l_least cc_least k_least).binds (ps := ["rows", "finals"]) fun _ _ _ _ _ _ us hl => match us, hl with | [_, _], _ => rfl,
      m_Machine_init := ⟨ga_Machine_init, i_Machine_init, k_Machine_init⟩,
      M_Machine := ⟨mk_Machine, ga_Machine_init, i_Machine_init, k_Machine⟩,
      f_Machine_init := f_Machine_init,
      fd_Machine_init := _,
      F_Machine_init := fun_mk (st := s_Machine_init) l_Machine_init cc_Machine_init k_Machine_init,
      b_Machine_init := (fun_mk (st := s_Machine_init) l_Machine_init cc_Machine_init k_Machine_init).binds (ps := ["self", "rows", "finals"]) fun _ _ _ _ _ _ us hl => match us, hl with | [_, _, _], _ => rfl,
      pr_Machine_states := ⟨pa_Machine_states, pb_Machine_states, pc_Machine_states, ⟨_, pd_Machine_states⟩⟩,
      p_Machine_states := p_Machine_states,
      f_Machine_states := f_Machine_states,
      fd_Machine_states := _,
      F_Machine_states := fun_mk (st := s_Machine_states) l_Machine_states cc_Machine_states k_Machine_states,
      b_Machine_states := (fun_mk (st := s_Machine_states) l_Machine_states cc_Machine_states k_Machine_states).binds (ps := ["self"]) fun _ _ _ _ _ _ us hl => match us, hl with | [_], _ => rfl,
      m_Machine_state_after := ⟨ga_Machine_state_after, i_Machine_state_after, k_Machine_state_after⟩,
      f_Machine_state_after := f_Machine_state_after,
      fd_Machine_state_after := _,
      F_Machine_state_after := fun_mk (st := s_Machine_state_after) l_Machine_state_after cc_Machine_state_after k_Machine_state_after,
      b_Machine_state_after := (fun_mk (st := s_Machine_state_after) l_Machine_state_after cc_Machine_state_after k_Machine_state_after).binds (ps := ["self", "text"]) fun _ _ _ _ _ _ us hl => match us, hl with | [_, _], _ => rfl,
      m_Machine_contains := ⟨ga_Machine_contains, i_Machine_contains, k_Machine_contains⟩,
      f_Machine_contains := f_Machine_contains,
      fd_Machine_contains := _,
      F_Machine_contains := fun_mk (st := s_Machine_contains) l_Machine_contains cc_Machine_contains k_Machine_contains,
      b_Machine_contains := (fun_mk (st := s_Machine_contains) l_Machine_contains cc_Machine_contains k_Machine_contains).binds (ps := ["self", "text"]) fun _ _ _ _ _ _ us hl => match us, hl with | [_, _], _ => rfl,
      m_Machine_eq := ⟨ga_Machine_eq, i_Machine_eq, k_Machine_eq⟩,
      f_Machine_eq := f_Machine_eq,
      fd_Machine_eq := _,
      F_Machine_eq := fun_mk (st := s_Machine_eq) l_Machine_eq cc_Machine_eq k_Machine_eq,
      b_Machine_eq := (fun_mk (st := s_Machine_eq) l_Machine_eq cc_Machine_eq k_Machine_eq).binds (ps := ["self", "other"]) fun _ _ _ _ _ _ us hl => match us, hl with | [_, _], _ => rfl,
      g_renamed_language := PySem.W.mg_of X G ga_renamed_language,
      f_renamed_language := f_renamed_language,
      fd_renamed_language := _,
      F_renamed_language := fun_mk (st := s_renamed_language) l_renamed_language cc_renamed_language k_renamed_language,
      b_renamed_language := (fun_mk (st := s_renamed_language) l_renamed_language cc_renamed_language k_renamed_language).binds (ps := ["machine", "to"]) fun _ _ _ _ _ _ us hl => match us, hl with | [_, _], _ => rfl,
      g_renamed_pattern := PySem.W.mg_of X G ga_renamed_pattern,
      f_renamed_pattern := f_renamed_pattern,
      fd_renamed_pattern := _,
      F_renamed_pattern := fun_mk (st := s_renamed_pattern) l_renamed_pattern cc_renamed_pattern k_renamed_pattern,
      b_renamed_pattern := (fun_mk (st := s_renamed_pattern) l_renamed_pattern cc_renamed_pattern k_renamed_pattern).binds (ps := ["pattern", "to"]) fun _ _ _ _ _ _ us hl => match us, hl with | [_, _], _ => rfl,
      g__law_mix := PySem.W.mg_of X G ga__law_mix,
      f__law_mix := f__law_mix,
      fd__law_mix := _,
      F__law_mix := fun_mk (st := s__law_mix) l__law_mix cc__law_mix k__law_mix,
      b__law_mix := (fun_mk (st := s__law_mix) l__law_mix cc__law_mix k__law_mix).binds (ps := ["cell", "k"]) fun _ _ _ _ _ _ us hl => match us, hl with | [_, _], _ => rfl,
      g__law_stream := PySem.W.mg_of X G ga__law_stream,
      f__law_stream := f__law_stream,
      fd__law_stream := _,
      F__law_stream := fun_mk (st := s__law_stream) l__law_stream cc__law_stream k__law_stream,
      b__law_stream := (fun_mk (st := s__law_stream) l__law_stream cc__law_stream k__law_stream).binds (ps := ["script", "many"]) fun _ _ _ _ _ _ us hl => match us, hl with | [_, _], _ => rfl,
      g__law_pick := PySem.W.mg_of X G ga__law_pick,
      f__law_pick := f__law_pick,
      fd__law_pick := _,
      F__law_pick := fun_mk (st := s__law_pick) l__law_pick cc__law_pick k__law_pick,
      b__law_pick := (fun_mk (st := s__law_pick) l__law_pick cc__law_pick k__law_pick).binds (ps := ["numbers", "at", "many"]) fun _ _ _ _ _ _ us hl => match us, hl with | [_, _, _], _ => rfl,
      g__law_kind := PySem.W.mg_of X G ga__law_kind,
      f__law_kind := f__law_kind,
      fd__law_kind := _,
      F__law_kind := fun_mk (st := s__law_kind) l__law_kind cc__law_kind k__law_kind,
      b__law_kind := (fun_mk (st := s__law_kind) l__law_kind cc__law_kind k__law_kind).binds (ps := ["value"]) fun _ _ _ _ _ _ us hl => match us, hl with | [_], _ => rfl,
      g__law_same := PySem.W.mg_of X G ga__law_same,
      f__law_same := f__law_same,
      fd__law_same := _,
      F__law_same := fun_mk (st := s__law_same) l__law_same cc__law_same k__law_same,
      b__law_same := (fun_mk (st := s__law_same) l__law_same cc__law_same k__law_same).binds (ps := ["answer", "due"]) fun _ _ _ _ _ _ us hl => match us, hl with | [_, _], _ => rfl,
      g__law_says := PySem.W.mg_of X G ga__law_says,
      f__law_says := f__law_says,
      fd__law_says := _,
      F__law_says := fun_mk (st := s__law_says) l__law_says cc__law_says k__law_says,
      b__law_says := (fun_mk (st := s__law_says) l__law_says cc__law_says k__law_says).binds (ps := ["answer", "due"]) fun _ _ _ _ _ _ us hl => match us, hl with | [_, _], _ => rfl,
      g__law_foreign := PySem.W.mg_of X G ga__law_foreign,
      f__law_foreign := f__law_foreign,
      fd__law_foreign := _,
      F__law_foreign := fun_mk (st := s__law_foreign) l__law_foreign cc__law_foreign k__law_foreign,
      b__law_foreign := (fun_mk (st := s__law_foreign) l__law_foreign cc__law_foreign k__law_foreign).binds (ps := []) fun _ _ _ _ _ _ us hl => match us, hl with | [], _ => rfl,
      g__law_char := PySem.W.mg_of X G ga__law_char,
      f__law_char := f__law_char,
      fd__law_char := _,
      F__law_char := fun_mk (st := s__law_char) l__law_char cc__law_char k__law_char,
      b__law_char := (fun_mk (st := s__law_char) l__law_char cc__law_char k__law_char).binds (ps := ["numbers", "at", "chars"]) fun _ _ _ _ _ _ us hl => match us, hl with | [_, _, _], _ => rfl,
      g__law_renaming := PySem.W.mg_of X G ga__law_renaming,
      f__law_renaming := f__law_renaming,
      fd__law_renaming := _,
      F__law_renaming := fun_mk (st := s__law_renaming) l__law_renaming cc__law_renaming k__law_renaming,
      b__law_renaming := (fun_mk (st := s__law_renaming) l__law_renaming cc__law_renaming k__law_renaming).binds (ps := ["numbers", "at"]) fun _ _ _ _ _ _ us hl => match us, hl with | [_, _], _ => rfl,
      g__law_signs := PySem.W.mg_of X G ga__law_signs,
      f__law_signs := f__law_signs,
      fd__law_signs := _,
      F__law_signs := fun_mk (st := s__law_signs) l__law_signs cc__law_signs k__law_signs,
      b__law_signs := (fun_mk (st := s__law_signs) l__law_signs cc__law_signs k__law_signs).binds (ps := ["number"]) fun _ _ _ _ _ _ us hl => match us, hl with | [_], _ => rfl,
      g__law_leaf := PySem.W.mg_of X G ga__law_leaf,
      f__law_leaf := f__law_leaf,
      fd__law_leaf := _,
      F__law_leaf := fun_mk (st := s__law_leaf) l__law_leaf cc__law_leaf k__law_leaf,
      b__law_leaf := (fun_mk (st := s__law_leaf) l__law_leaf cc__law_leaf k__law_leaf).binds (ps := ["numbers", "at"]) fun _ _ _ _ _ _ us hl => match us, hl with | [_, _], _ => rfl,
      g__law_pattern := PySem.W.mg_of X G ga__law_pattern,
      f__law_pattern := f__law_pattern,
      fd__law_pattern := _,
      F__law_pattern := fun_mk (st := s__law_pattern) l__law_pattern cc__law_pattern k__law_pattern,
      b__law_pattern := (fun_mk (st := s__law_pattern) l__law_pattern cc__law_pattern k__law_pattern).binds (ps := ["numbers", "at"]) fun _ _ _ _ _ _ us hl => match us, hl with | [_, _], _ => rfl,
      g__law_turned := PySem.W.mg_of X G ga__law_turned,
      f__law_turned := f__law_turned,
      fd__law_turned := _,
      F__law_turned := fun_mk (st := s__law_turned) l__law_turned cc__law_turned k__law_turned,
      b__law_turned := (fun_mk (st := s__law_turned) l__law_turned cc__law_turned k__law_turned).binds (ps := ["text", "to"]) fun _ _ _ _ _ _ us hl => match us, hl with | [_, _], _ => rfl,
      g__law_turned_pattern := PySem.W.mg_of X G ga__law_turned_pattern,
      f__law_turned_pattern := f__law_turned_pattern,
      fd__law_turned_pattern := _,
      F__law_turned_pattern := fun_mk (st := s__law_turned_pattern) l__law_turned_pattern cc__law_turned_pattern k__law_turned_pattern,
      b__law_turned_pattern := (fun_mk (st := s__law_turned_pattern) l__law_turned_pattern cc__law_turned_pattern k__law_turned_pattern).binds (ps := ["pattern", "to"]) fun _ _ _ _ _ _ us hl => match us, hl with | [_, _], _ => rfl,
      g__law_apart := PySem.W.mg_of X G ga__law_apart,
      f__law_apart := f__law_apart,
      fd__law_apart := _,
      F__law_apart := fun_mk (st := s__law_apart) l__law_apart cc__law_apart k__law_apart,
      b__law_apart := (fun_mk (st := s__law_apart) l__law_apart cc__law_apart k__law_apart).binds (ps := ["rows", "finals"]) fun _ _ _ _ _ _ us hl => match us, hl with | [_, _], _ => rfl,
      g__law_least := PySem.W.mg_of X G ga__law_least,
      f__law_least := f__law_least,
      fd__law_least := _,
      F__law_least := fun_mk (st := s__law_least) l__law_least cc__law_least k__law_least,
      b__law_least := (fun_mk (st := s__law_least) l__law_least cc__law_least k__law_least).binds (ps := ["rows", "finals"]) fun _ _ _ _ _ _ us hl => match us, hl with | [_, _], _ => rfl,
      g__law_is_machine := PySem.W.mg_of X G ga__law_is_machine,
      f__law_is_machine := f__law_is_machine,
      fd__law_is_machine := _,
      F__law_is_machine := fun_mk (st := s__law_is_machine) l__law_is_machine cc__law_is_machine k__law_is_machine,
      b__law_is_machine := (fun_mk (st := s__law_is_machine) l__law_is_machine cc__law_is_machine k__law_is_machine).binds (ps := ["machine", "due"]) fun _ _ _ _ _ _ us hl => match us, hl with | [_, _], _ => rfl,
      g__law_texts_told := PySem.W.mg_of X G ga__law_texts_told,
      f__law_texts_told := f__law_texts_told,
      fd__law_texts_told := _,
      F__law_texts_told := fun_mk (st := s__law_texts_told) l__law_texts_told cc__law_texts_told k__law_texts_told,
      b__law_texts_told := (fun_mk (st := s__law_texts_told) l__law_texts_told cc__law_texts_told k__law_texts_told).binds (ps := ["text", "numbers"]) fun _ _ _ _ _ _ us hl => match us, hl with | [_, _], _ => rfl,
      g__law_renamings_told := PySem.W.mg_of X G ga__law_renamings_told,
      f__law_renamings_told := f__law_renamings_told,
      fd__law_renamings_told := _,
      F__law_renamings_told := fun_mk (st := s__law_renamings_told) l__law_renamings_told cc__law_renamings_told k__law_renamings_told,
      b__law_renamings_told := (fun_mk (st := s__law_renamings_told) l__law_renamings_told cc__law_renamings_told k__law_renamings_told).binds (ps := ["to", "numbers"]) fun _ _ _ _ _ _ us hl => match us, hl with | [_, _], _ => rfl,
      g__law_language_told := PySem.W.mg_of X G ga__law_language_told,
      f__law_language_told := f__law_language_told,
      fd__law_language_told := _,
      F__law_language_told := fun_mk (st := s__law_language_told) l__law_language_told cc__law_language_told k__law_language_told,
      b__law_language_told := (fun_mk (st := s__law_language_told) l__law_language_told cc__law_language_told k__law_language_told).binds (ps := ["text", "to", "numbers", "first"]) fun _ _ _ _ _ _ us hl => match us, hl with | [_, _, _, _], _ => rfl,
      g_law := PySem.W.mg_of X G ga_law,
      f_law := f_law,
      fd_law := _,
      F_law := fun_mk (st := s_law) l_law cc_law k_law,
      b_law := (fun_mk (st := s_law) l_law cc_law k_law).binds (ps := ["script"]) fun _ _ _ _ _ _ us hl => match us, hl with | [_], _ => rfl,
      bt_law := fun s v => .of_eq rfl,
      z_abs := PySem.W.mg_none_of X G zz_abs,
      z_bool := PySem.W.mg_none_of X G zz_bool,
      z_int := PySem.W.mg_none_of X G zz_int,
      z_isinstance := PySem.W.mg_none_of X G zz_isinstance,
      z_len := PySem.W.mg_none_of X G zz_len,
      z_list := PySem.W.mg_none_of X G zz_list,
      z_range := PySem.W.mg_none_of X G zz_range,
      z_sorted := PySem.W.mg_none_of X G zz_sorted,
      z_str := PySem.W.mg_none_of X G zz_str,
      z_tuple := PySem.W.mg_none_of X G zz_tuple,
      tk_MOST_STATES := tkx_MOST_STATES,
      g_MOST_STATES := PySem.W.mg_of X G ga_MOST_STATES,
      tk_SIGNS := tkx_SIGNS,
      g_SIGNS := PySem.W.mg_of X G ga_SIGNS,
      a_PLACES := a_PLACES,
      g_PLACES := PySem.W.mg_of X G ga_PLACES,
      kd_PLACES := Gx.kiv_of dw_PLACES di_PLACES }, rfl⟩
end K03
namespace K03
open PySem PySem.Spec PyProof.Rows L2
local macro_rules | `(tactic| walk_at "con") => `(tactic| first | with_reducible refine Gx.conE K03.ks0 ?_ | with_reducible refine Gx.conE K03.ks1 ?_ | with_reducible refine Gx.conE K03.ks2 ?_ | with_reducible refine Gx.conE K03.ks3 ?_ | with_reducible refine Gx.conE K03.ks4 ?_ | with_reducible refine Gx.conE K03.ks5 ?_ | with_reducible refine Gx.conE K03.ks6 ?_ | with_reducible refine Gx.conE K03.ks7 ?_ | with_reducible refine Gx.conE K03.ks8 ?_ | with_reducible refine Gx.conE K03.ks9 ?_ | with_reducible refine Gx.conE K03.ks10 ?_ | with_reducible refine Gx.conE K03.ks11 ?_ | with_reducible refine Gx.conE K03.ks12 ?_ | with_reducible refine Gx.conE K03.ks13 ?_ | with_reducible refine Gx.conE K03.ks14 ?_ | with_reducible refine Gx.conE K03.ks15 ?_)
section
variable {P : Program} {w : World} {K : PySem.W.Frag} {mg : Str → Option Value} {base : Heap}
/-- the rows at a: a list or a tuple of lists or tuples of numbers -/
def RowsAt (K : PySem.W.Frag) (H : Hp) (a : Addr) (rows : List (List Nat)) : Prop := ∃ vs : List V, Gx.Sq K H a vs ∧ vs.length = rows.length ∧ ∀ (i : Nat) (row : List Nat), rows[i]? = some row → ∃ r, vs[i]? = some (V.ref r) ∧ Gx.Sq K H r (row.map fun n => V.int (n : Nat))
theorem RowsAt.same {H H' : Hp} {a : Addr} {rows : List (List Nat)} (h : RowsAt K H a rows) (e : Same H H') : RowsAt K H' a rows :=
  let ⟨vs, h1, h2, h3⟩ := h
  ⟨vs, h1.same e, h2, fun i row hi => let ⟨r, a, b⟩ := h3 i row hi; ⟨r, a, b.same e⟩⟩
/-- the rows of an automaton: all targets are states -/
def RowsOk (rows : List (List Nat)) : Prop := 0 < rows.length ∧ rows.length ≤ 20000 ∧ ∀ row ∈ rows, row.length ≤ 1000 ∧ ∀ t ∈ row, t < rows.length
/-- states, each once, that lead to each other -/
def Closed (rows : List (List Nat)) (o : List Nat) : Prop := o.Nodup ∧ (∀ s ∈ o, s < rows.length) ∧ o[0]? = some 0 ∧ ∀ s ∈ o, ∀ t ∈ rows.getD s [], t ∈ o
def sp_reached (K : PySem.W.Frag) : Sp := fun vs H Q _ => ∃ (a : Addr) (rows : List (List Nat)), vs = [.ref a] ∧ RowsAt K H a rows ∧ RowsOk rows ∧ ∀ H' p o, Same H H' → H' p = some (.lst (o.map fun n => V.int (n : Nat))) → Closed rows o → Q (.ref p) H'
theorem nodup_sub : ∀ (l D : List Nat), l.Nodup → (∀ x ∈ l, x ∈ D) → l.length ≤ D.length
  | [], _, _, _ => Nat.zero_le _
  | x :: l, D, hn, hs => by
    obtain ⟨h1, h2⟩ := List.nodup_cons.mp hn
    have hx : x ∈ D := hs x List.mem_cons_self
    have ih := nodup_sub l (D.erase x) h2 fun y hy => by
      have hne : y ≠ x := fun e => h1 (e ▸ hy)
      exact (List.mem_erase_of_ne hne).2 (hs y (List.mem_cons_of_mem _ hy))
    have e := List.length_erase_of_mem hx
    have hp : 0 < D.length := List.length_pos_of_mem hx
    rw [List.length_cons]
    omega
theorem nodup_le (l : List Nat) (n : Nat) (h : l.Nodup) (g : ∀ x ∈ l, x < n) : l.length ≤ n := by
  have := nodup_sub l (List.range n) h fun x hx => List.mem_range.mpr (g x hx)
  rwa [List.length_range] at this
theorem nodup_snoc {l : List Nat} {x : Nat} (h : l.Nodup) (g : x ∉ l) : (l ++ [x]).Nodup := by
  rw [List.nodup_append]
  exact ⟨h, by simp, fun a ha b hb => by
    cases List.mem_singleton.mp hb
    exact fun e => g (e ▸ ha)⟩
theorem G_reached (T : Txt K mg w) : FnOk P w K mg base CX0 1 T.f_reached T.fd_reached ["rows"] (sp_reached K) := by
  refine T.F_reached.ok sc_reached (fun vs H Q E h => ?_) (fun cdv A outer s H vs Q E hr h => ?_)
  · obtain ⟨a, rows, rfl, _⟩ := h
    rfl
  · obtain ⟨a, rows, rfl, hR, ok, q⟩ := h
    refine ⟨_, ((pss_cons (ps_set (i := 1) sc_reached.nd rfl (Or.inl rfl) (pe_lst (pa_cons pe_int pa_nil)))
  (pss_cons (ps_set (i := 2) sc_reached.nd rfl (Or.inl rfl) (pe_disp (pps_cons pe_int pe_bl pps_nil) rfl rfl (by decide) (by decide)))
  (pss_cons (ps_set (i := 3) sc_reached.nd rfl (Or.inl rfl) pe_int)
  (pss_cons (ps_while PassesOwn.never (pt_cmpR op_lt (pv 3) (pe_callB Gx.cr_lenQ (by rfl) T.z_len bt_len (pa_cons (pv 1) pa_nil)) (nomark _))
  (pss_cons (ps_for PassesOwn.never rfl (Gx.pi_seq (pe_ix ix_seq (pv 0) (pe_ix ix_list (pv 1) (pv 3) (fun _ _ => rfl)) (fun _ _ => rfl))) (pg_name (i := 4) sc_reached.nd rfl (Or.inl rfl))
  (pss_one (ps_if (pt_cmp (pc_dnotin (Gx.hu1 hr.units) (pv 4) (pv 2)))
  (pss_cons (ps_dput (Gx.hu1 hr.units) (pv 2) (pv 4) pe_bl rfl)
  (pss_one (ps_expr (pe_bm PySem.F.plainAttrs_list PySem.F.slot_list_append PySem.F.type_list_append mt_append (pv 1) (pa_cons (pv 4) pa_nil)))))
  pss_nil)))
  (pss_one (ps_aug (i := 3) sc_reached.nd rfl (Or.inl rfl) pe_int ip_add))))
  (pss_one (ps_ret (pv 1)))))))), ?_⟩
    rw [st_reached]
    try dsimp only [cxOf]
    walk_at "g"
    refine Gx.newL (by show 1 ≤ 16777216; decide) fun p H1 E1 => ?_
    walk_at "g"
    intro d nd
    walk_at "g"
    refine ⟨upd_same, [(.inl 0, .bl true)], rfl, by decide, ?_⟩
    have np : H p = none := E1.fresh
    have nd0 : H d = none := E1.same.free nd
    have s2 : Same H (upd (upd H1 d (.dK [])) d (.dK (mergeK [] [(.inl 0, .bl true)]))) := Gx.Same.put (Gx.Same.put E1.same nd0) nd0
    have e2 : (upd (upd H1 d (.dK [])) d (.dK (mergeK [] [(.inl 0, .bl true)]))) d = some (.dK [(.inl 0, .bl true)]) := upd_same
    have p2 : (upd (upd H1 d (.dK [])) d (.dK (mergeK [] [(.inl 0, .bl true)]))) p = some (.lst [.int 0]) := by
      rw [upd_ne (ne_of_none E1.at_ nd), upd_ne (ne_of_none E1.at_ nd)]
      exact E1.at_
    generalize upd (upd H1 d (.dK [])) d (.dK (mergeK [] [(.inl 0, .bl true)])) = H2 at s2 e2 p2 ⊢
    walk_at "g"
    refine Gx.wh (W := fun m σ H' => ∃ (o : List Nat) (at_ : Nat) (y : Option V) (kvs : List (Key × V)), Same H H' ∧ H' p = some (.lst (o.map fun n => V.int (n : Nat))) ∧ H' d = some (.dK kvs) ∧ kvs.length ≤ o.length ∧ (∀ s : Nat, (valV kvs (.inl (s : Nat))).isSome = decide (s ∈ o)) ∧
        o.Nodup ∧ (∀ s ∈ o, s < rows.length) ∧ o[0]? = some 0 ∧ at_ ≤ o.length ∧ (∀ i, i < at_ → ∀ t ∈ rows.getD (o.getD i 0) [], t ∈ o) ∧ m = rows.length - at_ ∧ σ = [some (.ref a), some (.ref p), some (.ref d), some (.int at_), y])
      (m0 := rows.length) ⟨[0], 0, none, _, s2, p2, e2, Nat.le_refl _, fun s => ?_, by simp, fun s hs => by cases List.mem_singleton.mp hs; exact ok.1, rfl, Nat.zero_le _, fun i hi => absurd hi (Nat.not_lt_zero _), rfl, rfl⟩ ?_
    · by_cases z : s = 0
      · subst z
        rfl
      · rw [valV_neg (by intro e; injection e with e; omega)]
        simp [z, valV]
    · rintro m σ H3 ⟨o, at_, y, kvs, s3, p3, d3, hk, hv, nd, lt, h0, ha, cl, rfl, rfl⟩
      have hS3 := SqL.of (K := K) p3
      have hol := nodup_le o rows.length nd lt
      have hn := ok.2.1
      walk_at "g"
      refine Gx.iteD (fun c => ⟨_, fun σ' H' z => z, ?_⟩) (fun c => ?_)
      · have c' : at_ < o.length := by omega
        obtain ⟨s, hs⟩ : ∃ s, o[at_]? = some s := ⟨_, List.getElem?_eq_getElem c'⟩
        have hsn := lt s (List.mem_of_getElem? hs)
        obtain ⟨row, hrw⟩ : ∃ row, rows[s]? = some row := ⟨_, List.getElem?_eq_getElem hsn⟩
        obtain ⟨hrl, hrt⟩ := ok.2.2 row (List.mem_of_getElem? hrw)
        obtain ⟨vs, hq, hl, hrow⟩ := id hR
        obtain ⟨r, hr1, hr2⟩ := hrow s row hrw
        walk_at "g"
        refine Gx.ixL hS3 (Gx.atI_of (k := at_) rfl (v := .int (s : Nat)) (by rw [List.getElem?_map, hs]; rfl)) ?_
        walk_at "g"
        refine Gx.ixQ (hq.same s3) rfl hr1 ?_
        walk_at "g"
        refine Gx.for_sq (H0 := H) (fun i σ H' => ∃ (o' : List Nat) (y : Option V) (kvs : List (Key × V)), Same H H' ∧ H' p = some (.lst (o'.map fun n => V.int (n : Nat))) ∧ H' d = some (.dK kvs) ∧ kvs.length ≤ o'.length ∧ (∀ s : Nat, (valV kvs (.inl (s : Nat))).isSome = decide (s ∈ o')) ∧
          o'.Nodup ∧ (∀ s ∈ o', s < rows.length) ∧ o <+: o' ∧ (∀ t ∈ row.take i, t ∈ o') ∧ σ = [some (.ref a), some (.ref p), some (.ref d), some (.int at_), y]) hr2 ⟨o, y, kvs, s3, p3, d3, hk, hv, nd, lt, List.prefix_refl o, fun t ht => by simp at ht, rfl⟩ (fun i σ H' _ ⟨_, _, _, e, _⟩ => e) ?_ ?_
        · rintro i x σ H4 hi ⟨o', y, kvs, s4, p4, d4, hk, hv, nd, lt, pre, tk, rfl⟩
          rw [List.getElem?_map] at hi
          cases hti : row[i]? with
          | none => rw [hti] at hi; cases hi
          | some t =>
            rw [hti] at hi
            obtain rfl := Option.some.inj hi
            have ht := hrt t (List.mem_of_getElem? hti)
            have htake : ∀ x ∈ row.take (i + 1), x ∈ row.take i ∨ x = t := fun x hx => by
              rw [List.take_add_one, hti, Option.toList_some] at hx
              rcases List.mem_append.mp hx with h | h
              · exact .inl h
              · exact .inr (List.mem_singleton.mp h)
            have hol' := nodup_le o' rows.length nd lt
            walk_at "g"
            refine ⟨_, _, rfl, DGet.k (k := .inl (t : Nat)) d4, _, rfl, ?_⟩
            rw [hv t]
            refine Gx.iteDn (fun hin => ?_) (fun hin => ?_)
            · walk_at "g"
              refine ⟨_, _, rfl, DPut.k (k := .inl (t : Nat)) d4 (by rw [sizeLine_eq]; omega), ?_⟩
              have p5 : (upd H4 d (.dK (putK kvs (.inl (t : Nat)) (.bl true)))) p = some (.lst (o'.map fun n => V.int (n : Nat))) := by
                rw [upd_ne (ne_of p4 d4 (by intro z; cases z))]
                exact p4
              have d5 : (upd H4 d (.dK (putK kvs (.inl (t : Nat)) (.bl true)))) d = some (.dK (putK kvs (.inl (t : Nat)) (.bl true))) := upd_same
              have s5 : Same H (upd H4 d (.dK (putK kvs (.inl (t : Nat)) (.bl true)))) := Gx.Same.put s4 nd0
              generalize upd H4 d (.dK (putK kvs (.inl (t : Nat)) (.bl true))) = H5 at p5 d5 s5 ⊢
              have hk5 := length_putK kvs (.inl (t : Nat)) (V.bl true)
              walk_at "g"
              refine Gx.app p5 (by rw [List.length_map, sizeLine_eq]; omega) ?_
              walk_at "g"
              refine ⟨o' ++ [t], _, _, Gx.Same.put s5 np, by rw [upd_same, List.map_append]; rfl, by rw [upd_ne (ne_of d5 p5 (by intro z; cases z))]; exact d5, by rw [List.length_append, List.length_singleton]; omega, fun s => ?_, nodup_snoc nd hin, fun s hs => ?_, pre.trans (List.prefix_append _ _), fun x hx => ?_, rfl⟩
              · rw [valV_put]
                by_cases z : s = t
                · subst z
                  simp
                · rw [if_neg (by intro e; injection e with e; omega), hv s]
                  simp [z]
              · rcases List.mem_append.mp hs with h | h
                · exact lt s h
                · cases List.mem_singleton.mp h
                  exact ht
              · rcases htake x hx with h | rfl
                · exact List.mem_append_left _ (tk x h)
                · exact List.mem_append_right _ (List.mem_singleton.mpr rfl)
            · walk_at "g"
              refine ⟨o', _, _, s4, p4, d4, hk, hv, nd, lt, pre, fun x hx => ?_, rfl⟩
              rcases htake x hx with h | rfl
              · exact tk x h
              · exact hin
        · rintro σ H4 ⟨o', y, kvs, s4, p4, d4, hk, hv, nd, lt, pre, tk, rfl⟩
          rw [List.length_map, List.take_length] at tk
          obtain ⟨z, rfl⟩ := pre
          walk_at "g"
          refine ⟨rows.length - (at_ + 1), by omega, o ++ z, at_ + 1, _, _, s4, p4, d4, hk, hv, nd, lt, by rw [List.getElem?_append_left (by omega)]; exact h0, by rw [List.length_append]; omega, fun i hi t ht => ?_, rfl, rfl⟩
          rw [show (o ++ z).getD i 0 = o.getD i 0 by rw [List.getD_eq_getElem?_getD, List.getElem?_append_left (by omega), List.getD_eq_getElem?_getD]] at ht
          by_cases e : i = at_
          · subst e
            rw [show o.getD i 0 = s by rw [List.getD_eq_getElem?_getD, hs]; rfl, List.getD_eq_getElem?_getD, hrw, Option.getD_some] at ht
            exact tk t ht
          · exact List.mem_append_left _ (cl i (by omega) t ht)
      · walk_at "g"
        refine q H3 p o s3 p3 ⟨nd, lt, h0, fun s hs t ht => ?_⟩
        obtain ⟨i, hi⟩ := List.mem_iff_getElem?.mp hs
        have hil := (List.getElem?_eq_some_iff.mp hi).1
        refine cl i (by omega) t ?_
        rw [show o.getD i 0 = s by rw [List.getD_eq_getElem?_getD, hi]; rfl]
        exact ht
def keyN (rows : List (List Nat)) (mk : Nat → Nat) (s : Nat) : NestedKey := .tup [.num (mk s : Nat), .tup ((rows.getD s []).map fun t => .num (mk t : Nat))]
/-- the finer marks: two states have the same one if they had the same mark, and so had what they lead to; 0 .. c - 1, each is there -/
def Ref (rows : List (List Nat)) (o : List Nat) (mk mk' : Nat → Nat) (c : Nat) : Prop :=
  (∀ s ∈ o, ∀ t ∈ o, (mk' s = mk' t ↔ (mk s = mk t ∧ (rows.getD s []).map mk = (rows.getD t []).map mk))) ∧ (∀ s ∈ o, mk' s < c) ∧ ∀ j, j < c → ∃ s, s ∈ o ∧ mk' s = j
def sp_refined (K : PySem.W.Frag) : Sp := fun vs H Q _ => ∃ (a b d : Addr) (rows : List (List Nat)) (o : List Nat) (mk : Nat → Nat) (n : Nat), vs = [.ref a, .ref b, .ref d] ∧ RowsAt K H a rows ∧ RowsOk rows ∧ SqL K H b (o.map fun n => V.int (n : Nat)) ∧ Closed rows o ∧ Gx.DM H d n o mk ∧
  ∀ H' u f c mk', Same H H' → H' u = some (.tup [.ref f, .int (c : Nat)]) → Gx.DM H' f o.length o mk' → Ref rows o mk mk' c → Q (.ref u) H'
/-- keys numbered in the order they came -/
def NumOk (ks : List NestedKey) (kvs : List (NestedKey × V)) : Prop := kvs.length = ks.length ∧ ks.Nodup ∧ ∀ k, valV kvs k = if k ∈ ks then some (V.int (ks.idxOf k : Nat)) else none
theorem NumOk.put {ks : List NestedKey} {kvs : List (NestedKey × V)} (h : NumOk ks kvs) {k : NestedKey} (n : k ∉ ks) : NumOk (ks ++ [k]) (putK kvs k (.int (ks.length : Nat))) := by
  have hv : valV kvs k = none := by rw [h.2.2 k, if_neg n]
  refine ⟨by rw [putK_new _ hv, List.length_append, List.length_append, h.1]; rfl, ?_, fun j => ?_⟩
  · rw [List.nodup_append]
    exact ⟨h.2.1, by simp, fun a ha b hb => by
      cases List.mem_singleton.mp hb
      exact fun e => n (e ▸ ha)⟩
  · rw [valV_put]
    by_cases e : j = k
    · subst e
      rw [if_pos rfl, if_pos (by simp), List.idxOf_append, if_neg n]
      simp
    · rw [if_neg e, h.2.2 j]
      by_cases m : j ∈ ks
      · rw [if_pos m, if_pos (List.mem_append_left _ m), List.idxOf_append, if_pos m]
      · rw [if_neg m, if_neg (by simp [m, e])]
theorem idx_app {ks : List NestedKey} {k j : NestedKey} (h : j ∈ ks) : (ks ++ [k]).idxOf j = ks.idxOf j := by rw [List.idxOf_append, if_pos h]
theorem dep_nums (f : Nat → Nat) : ∀ l : List Nat, NestedKey.depthAll (l.map fun t => NestedKey.num (f t : Nat)) = 0
  | [] => rfl
  | x :: l => by rw [List.map_cons, NestedKey.depthAll, dep_nums f l]; rfl
theorem dep_key (rows : List (List Nat)) (mk : Nat → Nat) (s : Nat) : (keyN rows mk s).depth ≤ 8 := by
  unfold keyN
  simp only [NestedKey.depth, NestedKey.depthAll, dep_nums]
  omega
theorem key_iff (rows : List (List Nat)) (mk : Nat → Nat) (s t : Nat) : keyN rows mk s = keyN rows mk t ↔ (mk s = mk t ∧ (rows.getD s []).map mk = (rows.getD t []).map mk) := by
  have inj : ∀ l l' : List Nat, (l.map fun t => NestedKey.num (mk t : Nat)) = (l'.map fun t => NestedKey.num (mk t : Nat)) ↔ l.map mk = l'.map mk := by
    intro l
    induction l with
    | nil => intro l'; cases l' <;> simp
    | cons x l ih =>
      intro l'
      cases l' with
      | nil => simp
      | cons y l' =>
        simp only [List.map_cons, List.cons.injEq, ih, NestedKey.num.injEq]
        constructor
        · rintro ⟨h1, h2⟩; exact ⟨by omega, h2⟩
        · rintro ⟨h1, h2⟩; exact ⟨by omega, h2⟩
  unfold keyN
  simp only [NestedKey.tup.injEq, List.cons.injEq, NestedKey.num.injEq, and_true, inj]
  constructor
  · rintro ⟨h1, h2⟩; exact ⟨by omega, h2⟩
  · rintro ⟨h1, h2⟩; exact ⟨by omega, h2⟩
theorem DM.get {H : Hp} {d : Addr} {n : Nat} {o : List Nat} {f : Nat → Nat} (h : Gx.DM H d n o f) {s : Nat} (hs : s ∈ o) : DGet H d (.int (s : Nat)) (some (.int (f s : Nat))) := by
  obtain ⟨kvs, e, _, hv⟩ := h
  have := DGet.k (k := .inl (s : Nat)) e
  rw [hv s hs] at this
  exact this
theorem G_refined (T : Txt K mg w) : FnOk P w K mg base CX0 1 T.f_refined T.fd_refined ["rows", "order", "marks"] (sp_refined K) := by
  refine T.F_refined.ok sc_refined (fun vs H Q E h => ?_) (fun cdv A outer s H vs Q E hr h => ?_)
  · obtain ⟨a, b, d, rows, o, mk, n, rfl, _⟩ := h
    rfl
  · obtain ⟨a, b, d, rows, o, mk, n, rfl, hR, ok, hS, cl, hm, q⟩ := h
    have hol := nodup_le o rows.length cl.1 cl.2.1
    have hn := ok.2.1
    refine ⟨_, ((pss_cons (ps_set (i := 3) sc_refined.nd rfl (Or.inl rfl) (Gx.pe_nnew))
  (pss_cons (ps_set (i := 4) sc_refined.nd rfl (Or.inl rfl) pe_dnewK)
  (pss_cons (ps_for PassesOwn.never rfl (pi_list (pv 1)) (pg_name (i := 5) sc_refined.nd rfl (Or.inl rfl))
  (pss_cons (ps_set (i := 6) sc_refined.nd rfl (Or.inl rfl) (pe_ix ix_seq (pv 0) (pv 5) (fun _ _ => rfl)))
  (pss_cons (ps_set (i := 7) sc_refined.nd rfl (Or.inl rfl) (pe_tup (pa_cons (pe_dget (Gx.hu1 hr.units) (pv 2) (pv 5) (fun _ _ => rfl)) (pa_cons (pe_callTy Gx.cr_tupL (by rfl) T.z_tuple bt_tuple (pa_cons (pe_lc (own := [("target", 8)]) (g := gName 8) (tt := tYes) (by rfl) sc_refined.nd (Gx.pi_seq (pv 6)) (blkOk_by (N := ["rows", "order", "marks", "numbers", "finer", "state", "row", "sign", "target"]) (sc := defScope s_refined) (by decide +kernel)) (fun _ _ _ _ _ => (pg_name (i := 8) sc_refined.nd rfl (Or.inl rfl))) (fun _ _ _ _ _ => pts_nil) (fun _ _ _ _ _ => (pe_dget (Gx.hu1 hr.units) (pv 2) (pv 8) (fun _ _ => rfl)))) pa_nil)) pa_nil))))
  (C8.pss_cut (ps_if (pt_cmp (Gx.pc_nnotin hr.units (pv 7) (pv 3)))
  (pss_one (Gx.ps_nput hr.units (pv 3) (pv 7) (pe_callB Gx.cr_lenN (by rfl) T.z_len bt_len (pa_cons (pv 3) pa_nil)) rfl))
  pss_nil)
  (pss_one (ps_dput (Gx.hu1 hr.units) (pv 4) (pv 5) (Gx.pe_nget hr.units (pv 3) (pv 7) (fun _ _ => rfl)) rfl))))))
  (pss_one (ps_ret (pe_tup (pa_cons (pv 4) (pa_cons (pe_callB Gx.cr_lenN (by rfl) T.z_len bt_len (pa_cons (pv 3) pa_nil)) pa_nil))))))))), ?_⟩
    rw [st_refined]
    try dsimp only [cxOf]
    walk_at "g"
    intro p H1 np dp ap
    have s1 : Same H H1 := fun x u e => by rw [ap x (ne_of_none e np)]; exact e
    walk_at "g"
    intro f nf
    have nf0 : H f = none := s1.free nf
    have s2 : Same H (upd H1 f (.dK [])) := Gx.Same.put s1 nf0
    have f2 : (upd H1 f (.dK [])) f = some (.dK []) := upd_same
    have d2 : Gx.DN P w (upd H1 f (.dK [])) p [] := dp.same (Gx.ext1 (o := .dK []) nf).same
    generalize upd H1 f (.dK []) = H2 at s2 f2 d2 ⊢
    walk_at "g"
    refine ⟨⟨_, s2.seq hS⟩, for_list (K := K) (a := b) (xs := o.map fun n => V.int (n : Nat)) (fun i σ H' => ∃ (ks : List NestedKey) (kvs : List (NestedKey × V)) (kf : List (Key × V)) (y1 y2 y3 y4 : Option V), Same H H' ∧ Gx.DN P w H' p kvs ∧ NumOk ks kvs ∧ ks.length ≤ i ∧ H' f = some (.dK kf) ∧ kf.length ≤ i ∧
        (∀ s ∈ o.take i, keyN rows mk s ∈ ks ∧ valV kf (.inl (s : Nat)) = some (.int (ks.idxOf (keyN rows mk s) : Nat))) ∧ (∀ k ∈ ks, ∃ s, s ∈ o.take i ∧ keyN rows mk s = k) ∧
        σ = [some (.ref a), some (.ref b), some (.ref d), some (.ref p), some (.ref f), y1, y2, y3, y4])
      ⟨[], [], [], none, none, none, none, s2, d2, ⟨rfl, List.nodup_nil, fun k => by simp [valV]⟩, Nat.le_refl _, f2, Nat.le_refl _, fun s hs => by simp at hs, fun k hk => by simp at hk, rfl⟩ (fun i σ H' _ ⟨_, _, _, _, _, _, _, e, _⟩ => e.seq hS) ?_ ?_⟩
    · rintro i x σ H3 hi ⟨ks, kvs, kf, y1, y2, y3, y4, s3, d3, nk, hki, f3, hfi, hval, hsur, rfl⟩
      rw [List.getElem?_map] at hi
      cases hoi : o[i]? with
      | none => rw [hoi] at hi; cases hi
      | some s =>
        rw [hoi] at hi
        obtain rfl := Option.some.inj hi
        have hso := List.mem_of_getElem? hoi
        have hil := (List.getElem?_eq_some_iff.mp hoi).1
        have hsn := cl.2.1 s hso
        obtain ⟨row, hrw⟩ : ∃ row, rows[s]? = some row := ⟨_, List.getElem?_eq_getElem hsn⟩
        have hgd : rows.getD s [] = row := by rw [List.getD_eq_getElem?_getD, hrw]; rfl
        have hto : ∀ t ∈ row, t ∈ o := fun t ht => cl.2.2.2 s hso t (by rw [hgd]; exact ht)
        obtain ⟨hrl, hrt⟩ := ok.2.2 row (List.mem_of_getElem? hrw)
        obtain ⟨vs, hq, hl, hrow⟩ := hR.same s3
        obtain ⟨r, hr1, hr2⟩ := hrow s row hrw
        walk_at "g"
        refine Gx.ixQ hq rfl hr1 ?_
        walk_at "g"
        refine ⟨_, _, rfl, DM.get (hm.same s3) hso, ?_⟩
        walk_at "g"
        refine Gx.lc_sq hr2 fun D nD => ⟨fun i H' => Same H3 H' ∧ H' D = some (.lst ((row.take i).map fun t => V.int (mk t : Nat))), ⟨Gx.Same.put (Same.refl H3) nD, upd_same⟩, fun i H' _ z => z.1, ?_, ?_⟩
        · rintro j x H4 hj ⟨s4, e4⟩
          rw [List.getElem?_map] at hj
          cases htj : row[j]? with
          | none => rw [htj] at hj; cases hj
          | some t =>
            rw [htj] at hj
            obtain rfl := Option.some.inj hj
            walk_at "g"
            refine ⟨rfl, ?_⟩
            walk_at "g"
            refine ⟨_, _, rfl, DM.get (hm.same (s3.trans s4)) (hto t (List.mem_of_getElem? htj)), ?_⟩
            refine ⟨_, e4, by rw [List.length_map, List.length_take, sizeLine_eq]; omega, Gx.Same.put s4 nD, ?_⟩
            rw [upd_same, List.take_add_one, htj, Option.toList_some, List.map_append]
            rfl
        · rintro H4 ⟨s4, e4⟩
          rw [List.length_map, List.take_length] at e4
          walk_at "g"
          refine Gx.tupL (SqL.of e4) fun c nc => ?_
          have E5 := Gx.ext1 (o := .tup (row.map fun t => V.int (mk t : Nat))) nc
          generalize upd H4 c (.tup (row.map fun t => V.int (mk t : Nat))) = H5 at E5 ⊢
          walk_at "g"
          refine Gx.newT (by show 2 ≤ 16777216; decide) fun u H6 E6 => ?_
          have s36 : Same H3 H6 := (s4.trans E5.same).trans E6.same
          have s6 := s3.trans s36
          have nku : Gx.NK H6 (keyN rows mk s) (.ref u) := ⟨u, rfl, .tup E6.at_ (.cons (.int _) (.cons (.tup (E6.same _ _ E5.at_) (by
            rw [hgd]
            have := Gx.NVs.ints (H := H6) (row.map fun t => (mk t : Int))
            rw [List.map_map, List.map_map] at this
            exact this)) .nil)), dep_key _ _ _⟩
          have d6 := d3.same s36
          have f6 := s36 _ _ f3
          walk_at "g"
          refine ⟨fun σ H' => ∃ (ks' : List NestedKey) (kvs' : List (NestedKey × V)), Same H H' ∧ Gx.DN P w H' p kvs' ∧ NumOk ks' kvs' ∧ ks'.length ≤ i + 1 ∧ H' f = some (.dK kf) ∧ keyN rows mk s ∈ ks' ∧ (∀ k ∈ ks, k ∈ ks' ∧ ks'.idxOf k = ks.idxOf k) ∧ (∀ k ∈ ks', k ∈ ks ∨ k = keyN rows mk s) ∧ Gx.NK H' (keyN rows mk s) (.ref u) ∧
            ∃ y : Option V, σ = [some (.ref a), some (.ref b), some (.ref d), some (.ref p), some (.ref f), some (.int (s : Nat)), some (.ref r), some (.ref u), y], ?_, ?_⟩
          · walk_at "g"
            refine ⟨_, _, _, rfl, d6, nku, _, rfl, ?_⟩
            rw [nk.2.2]
            by_cases hin : keyN rows mk s ∈ ks
            · rw [if_pos hin, if_neg (by rw [Option.isSome_some]; decide)]
              walk_at "g"
              exact ⟨ks, kvs, s6, d6, nk, by omega, f6, hin, fun k hk => ⟨hk, rfl⟩, fun k hk => .inl hk, nku, _, rfl⟩
            · rw [if_neg hin, if_pos (show (!Option.isSome (none : Option V)) = true from rfl)]
              walk_at "g"
              refine ⟨_, _, rfl, d6, ?_⟩
              walk_at "g"
              refine ⟨_, _, _, rfl, d6, nku, by rw [nk.1, sizeLine_eq]; omega, fun H7 d7 k7 => ?_⟩
              rw [nk.1] at d7
              have hpf : f ≠ p := by
                obtain ⟨xs, e, _⟩ := d6
                exact ne_of f6 e (by intro z; cases z)
              have s7 : Same H H7 := fun x v e => by rw [k7 x (ne_of_none e np)]; exact s6 x v e
              have t67 : ∀ b ys, H6 b = some (.tup ys) → H7 b = some (.tup ys) := fun b ys e => by
                obtain ⟨xs, ep, _⟩ := d6
                rw [k7 b (ne_of e ep (by intro z; cases z))]
                exact e
              refine ⟨ks ++ [keyN rows mk s], _, s7, d7, nk.put hin, by rw [List.length_append, List.length_singleton]; omega, by rw [k7 f hpf]; exact f6, List.mem_append_right _ (List.mem_singleton.mpr rfl), fun k hk => ⟨List.mem_append_left _ hk, idx_app hk⟩, fun k hk => ?_, ?_, _, rfl⟩
              · rcases List.mem_append.mp hk with h | h
                · exact .inl h
                · exact .inr (List.mem_singleton.mp h)
              · obtain ⟨b, e1, e2, e3⟩ := nku
                exact ⟨b, e1, Gx.NV.keeps t67 _ _ e2, e3⟩
          · rintro σ H7 ⟨ks', kvs', s7, d7, nk', hk', f7, hin, hold, hnew, nku', y, rfl⟩
            walk_at "g"
            refine ⟨_, _, _, _, rfl, d7, nku', (by rw [nk'.2.2, if_pos hin]), ?_⟩
            walk_at "g"
            refine ⟨_, _, rfl, DPut.k (k := .inl (s : Nat)) f7 (by rw [sizeLine_eq]; omega), ?_⟩
            have hlp := length_putK kf (.inl (s : Nat)) (V.int (ks'.idxOf (keyN rows mk s) : Nat))
            have hpf : p ≠ f := by
              obtain ⟨xs, e, _⟩ := d7
              exact (ne_of f7 e (by intro z; cases z)).symm
            have htk : ∀ x ∈ o.take (i + 1), x ∈ o.take i ∨ x = s := fun x hx => by
              rw [List.take_add_one, hoi, Option.toList_some] at hx
              rcases List.mem_append.mp hx with h | h
              · exact .inl h
              · exact .inr (List.mem_singleton.mp h)
            have hkt : ∀ x ∈ o.take i, x ∈ o.take (i + 1) := fun x hx => by
              rw [List.take_add_one]
              exact List.mem_append_left _ hx
            refine ⟨ks', kvs', _, _, _, _, _, Gx.Same.put s7 nf0, d7.keeps (fun b ys e => ?_) (upd_ne hpf), nk', hk', upd_same, by omega, fun x hx => ?_, fun k hk => ?_, rfl⟩
            · rw [upd_ne (ne_of e f7 (by intro z; cases z))]
              exact e
            · by_cases e : x = s
              · subst e
                exact ⟨hin, by rw [valV_put, if_pos rfl]⟩
              · rcases htk x hx with h | h
                · obtain ⟨g1, g2⟩ := hval x h
                  obtain ⟨g3, g4⟩ := hold _ g1
                  refine ⟨g3, ?_⟩
                  rw [valV_put, if_neg (by intro z; injection z with z; omega), g2, g4]
                · exact absurd h e
            · rcases hnew k hk with h | rfl
              · obtain ⟨x, h1, h2⟩ := hsur k h
                exact ⟨x, hkt x h1, h2⟩
              · exact ⟨s, by rw [List.take_add_one, hoi, Option.toList_some]; exact List.mem_append_right _ (List.mem_singleton.mpr rfl), rfl⟩
    · rintro σ H3 ⟨ks, kvs, kf, y1, y2, y3, y4, s3, d3, nk, hki, f3, hfi, hval, hsur, rfl⟩
      rw [List.length_map, List.take_length] at hval hsur
      walk_at "g"
      refine ⟨_, _, rfl, d3, ?_⟩
      walk_at "g"
      refine Gx.newT (by show 2 ≤ 16777216; decide) fun u H4 E4 => ?_
      walk_at "g"
      rw [nk.1] at E4
      refine q H4 u f ks.length (fun s => ks.idxOf (keyN rows mk s)) (s3.trans E4.same) E4.at_ ⟨kf, E4.same _ _ f3, by rw [List.length_map] at hfi; exact hfi, fun s hs => (hval s hs).2⟩ ⟨fun s hs t ht => ?_, fun s hs => List.idxOf_lt_length_of_mem (hval s hs).1, fun j hj => ?_⟩
      · rw [← key_iff]
        constructor
        · intro e
          have h1 := List.getElem_idxOf (List.idxOf_lt_length_of_mem (hval s hs).1)
          have h2 := List.getElem_idxOf (List.idxOf_lt_length_of_mem (hval t ht).1)
          rw [← h1, ← h2]
          congr 1
        · intro e
          show ks.idxOf _ = ks.idxOf _
          rw [e]
      · obtain ⟨s, hs, e⟩ := hsur _ (List.getElem_mem hj)
        refine ⟨s, hs, ?_⟩
        show ks.idxOf _ = j
        rw [e]
        exact nk.2.1.idxOf_getElem j hj
/-! ### marks, in plain Lean -/
/-- the marks 0 .. c - 1, each is there -/
def Onto (o : List Nat) (mk : Nat → Nat) (c : Nat) : Prop := (∀ s ∈ o, mk s < c) ∧ ∀ j, j < c → ∃ s, s ∈ o ∧ mk s = j
theorem nodup_map_inj {α : Type} {f : α → Nat} : ∀ {l : List α}, l.Nodup → (∀ x ∈ l, ∀ y ∈ l, f x = f y → x = y) → (l.map f).Nodup
  | [], _, _ => List.nodup_nil
  | x :: l, h, g => by
    obtain ⟨h1, h2⟩ := List.nodup_cons.mp h
    rw [List.map_cons, List.nodup_cons]
    refine ⟨fun hx => ?_, nodup_map_inj h2 fun a ha b hb => g a (List.mem_cons_of_mem _ ha) b (List.mem_cons_of_mem _ hb)⟩
    obtain ⟨y, hy, e⟩ := List.mem_map.mp hx
    exact h1 ((g y (List.mem_cons_of_mem _ hy) x List.mem_cons_self e) ▸ hy)
theorem nodup_full {l : List Nat} {n : Nat} (h : l.Nodup) (g : ∀ x ∈ l, x < n) (e : l.length = n) : ∀ x, x < n → x ∈ l := fun x hx => by
  by_cases m : x ∈ l
  · exact m
  · have := nodup_le (x :: l) n (List.nodup_cons.mpr ⟨m, h⟩) fun y hy => by
      rcases List.mem_cons.mp hy with rfl | hy
      · exact hx
      · exact g y hy
    rw [List.length_cons] at this
    omega
/-- a state for each mark -/
theorem reps {o : List Nat} {mk : Nat → Nat} {c : Nat} (h : ∀ j, j < c → ∃ s, s ∈ o ∧ mk s = j) : ∃ rep : Nat → Nat, ∀ j, j < c → rep j ∈ o ∧ mk (rep j) = j :=
  ⟨fun j => if q : j < c then (h j q).choose else 0, fun j q => by simp only [q, dite_true]; exact (h j q).choose_spec⟩
theorem onto_le {o : List Nat} {mk : Nat → Nat} {c : Nat} (h : Onto o mk c) : c ≤ o.length := by
  obtain ⟨rep, hr⟩ := reps h.2
  have nd : ((List.range c).map rep).Nodup := nodup_map_inj List.nodup_range fun x hx y hy e => by
    rw [← (hr x (List.mem_range.mp hx)).2, ← (hr y (List.mem_range.mp hy)).2, e]
  have := nodup_sub _ o nd fun x hx => by
    obtain ⟨j, hj, rfl⟩ := List.mem_map.mp hx
    exact (hr j (List.mem_range.mp hj)).1
  rwa [List.length_map, List.length_range] at this
theorem onto_mono {o : List Nat} {mk mk' : Nat → Nat} {c c' : Nat} (h : Onto o mk c) (h' : Onto o mk' c') (r : ∀ s ∈ o, ∀ t ∈ o, mk' s = mk' t → mk s = mk t) : c ≤ c' ∧ (c = c' → ∀ s ∈ o, ∀ t ∈ o, mk s = mk t → mk' s = mk' t) := by
  obtain ⟨rep, hr⟩ := reps h.2
  have nd : ((List.range c).map fun j => mk' (rep j)).Nodup := nodup_map_inj List.nodup_range fun x hx y hy e => by
    have hx := hr x (List.mem_range.mp hx)
    have hy := hr y (List.mem_range.mp hy)
    rw [← hx.2, ← hy.2]
    exact r _ hx.1 _ hy.1 e
  have lt : ∀ x ∈ (List.range c).map fun j => mk' (rep j), x < c' := fun x hx => by
    obtain ⟨j, hj, rfl⟩ := List.mem_map.mp hx
    exact h'.1 _ (hr j (List.mem_range.mp hj)).1
  have len : ((List.range c).map fun j => mk' (rep j)).length = c := by rw [List.length_map, List.length_range]
  refine ⟨by have := nodup_le _ c' nd lt; rwa [len] at this, fun e s hs t ht est => ?_⟩
  have full := nodup_full nd lt (len.trans e)
  obtain ⟨i, hi, ei⟩ := List.mem_map.mp (full (mk' s) (h'.1 s hs))
  obtain ⟨j, hj, ej⟩ := List.mem_map.mp (full (mk' t) (h'.1 t ht))
  have hi := hr i (List.mem_range.mp hi)
  have hj := hr j (List.mem_range.mp hj)
  have e1 := r _ hi.1 s hs ei
  have e2 := r _ hj.1 t ht ej
  have : i = j := by rw [← hi.2, ← hj.2, e1, e2, est]
  rw [← ei, ← ej, this]
/-- related states are alike: both final or not, and their moves lead to related states -/
def Bis (rows : List (List Nat)) (fin : List Bool) (R : Nat → Nat → Prop) : Prop := ∀ s t, R s t → fin.getD s false = fin.getD t false ∧ (rows.getD s []).length = (rows.getD t []).length ∧ ∀ k, k < (rows.getD s []).length → R ((rows.getD s []).getD k 0) ((rows.getD t []).getD k 0)
/-- marks that are alike exactly where states cannot be told apart -/
def Coarse (rows : List (List Nat)) (fin : List Bool) (o : List Nat) (mk : Nat → Nat) : Prop :=
  (∀ s ∈ o, ∀ t ∈ o, mk s = mk t → fin.getD s false = fin.getD t false ∧ (rows.getD s []).map mk = (rows.getD t []).map mk) ∧ ∀ R, Bis rows fin R → ∀ s ∈ o, ∀ t ∈ o, R s t → mk s = mk t
theorem map_of_rel {R : Nat → Nat → Prop} {mk : Nat → Nat} : ∀ {l l' : List Nat}, l.length = l'.length → (∀ k, k < l.length → R (l.getD k 0) (l'.getD k 0)) → (∀ x ∈ l, ∀ y ∈ l', R x y → mk x = mk y) → l.map mk = l'.map mk
  | [], [], _, _, _ => rfl
  | [], _ :: _, h, _, _ => by cases h
  | _ :: _, [], h, _, _ => by cases h
  | x :: l, y :: l', h, g, r => by
    rw [List.map_cons, List.map_cons, r x List.mem_cons_self y List.mem_cons_self (g 0 (Nat.succ_pos _)), map_of_rel (R := R) (Nat.succ.inj h) (fun k hk => g (k + 1) (Nat.succ_lt_succ hk)) fun a ha b hb => r a (List.mem_cons_of_mem _ ha) b (List.mem_cons_of_mem _ hb)]
/-- the way of the marks: i rounds done -/
def Marks (rows : List (List Nat)) (fin : List Bool) (o : List Nat) (i : Nat) (mk : Nat → Nat) (c : Nat) : Prop :=
  (∀ s ∈ o, ∀ t ∈ o, mk s = mk t → fin.getD s false = fin.getD t false) ∧ (∀ R, Bis rows fin R → ∀ s ∈ o, ∀ t ∈ o, R s t → mk s = mk t) ∧ ((i = 0 ∧ c = 0) ∨ (0 < i ∧ Onto o mk c)) ∧ i ≤ c
theorem Marks.stop {rows : List (List Nat)} {fin : List Bool} {o : List Nat} {i : Nat} {mk mk' : Nat → Nat} {c : Nat} (h : Marks rows fin o i mk c) (cl : Closed rows o) (r : Ref rows o mk mk' c) : Coarse rows fin o mk := by
  obtain ⟨m1, m2, m3, m4⟩ := h
  have h0 : 0 ∈ o := List.mem_of_getElem? cl.2.2.1
  rcases m3 with ⟨_, rfl⟩ | ⟨_, on⟩
  · exact absurd (r.2.1 0 h0) (Nat.not_lt_zero _)
  · refine ⟨fun s hs t ht e => ⟨m1 s hs t ht e, ?_⟩, m2⟩
    exact ((r.1 s hs t ht).mp ((onto_mono on ⟨r.2.1, r.2.2⟩ fun s hs t ht e => ((r.1 s hs t ht).mp e).1).2 rfl s hs t ht e)).2
theorem Marks.go {rows : List (List Nat)} {fin : List Bool} {o : List Nat} {i : Nat} {mk mk' : Nat → Nat} {c c' : Nat} (h : Marks rows fin o i mk c) (cl : Closed rows o) (r : Ref rows o mk mk' c') (ne : c' ≠ c) : Marks rows fin o (i + 1) mk' c' := by
  obtain ⟨m1, m2, m3, m4⟩ := h
  have h0 : 0 ∈ o := List.mem_of_getElem? cl.2.2.1
  have hc : c ≤ c' := by
    rcases m3 with ⟨_, rfl⟩ | ⟨_, on⟩
    · exact Nat.zero_le _
    · exact (onto_mono on ⟨r.2.1, r.2.2⟩ fun s hs t ht e => ((r.1 s hs t ht).mp e).1).1
  refine ⟨fun s hs t ht e => m1 s hs t ht ((r.1 s hs t ht).mp e).1, fun R hR s hs t ht e => ?_, .inr ⟨Nat.succ_pos _, r.2.1, r.2.2⟩, by omega⟩
  obtain ⟨_, b2, b3⟩ := hR s t e
  exact (r.1 s hs t ht).mpr ⟨m2 R hR s hs t ht e, map_of_rel (R := R) b2 b3 fun x hx y hy q => m2 R hR x (cl.2.2.2 s hs x hx) y (cl.2.2.2 t ht y hy) q⟩
def sp_classes (K : PySem.W.Frag) : Sp := fun vs H Q _ => ∃ (a f b : Addr) (rows : List (List Nat)) (fin : List Bool) (o : List Nat), vs = [.ref a, .ref f, .ref b] ∧ RowsAt K H a rows ∧ RowsOk rows ∧ Gx.Sq K H f (fin.map V.bl) ∧ fin.length = rows.length ∧ SqL K H b (o.map fun n => V.int (n : Nat)) ∧ Closed rows o ∧
  ∀ H' m mk, Same H H' → Gx.DM H' m o.length o mk → Coarse rows fin o mk → Q (.ref m) H'
theorem G_classes (T : Txt K mg w) : FnOk P w K mg base CX0 2 T.f_classes T.fd_classes ["rows", "finals", "order"] (sp_classes K) := by
  have G_refined := G_refined (P := P) (w := w) (base := base) T
  refine T.F_classes.ok sc_classes (fun vs H Q E h => ?_) (fun cdv A outer s H vs Q E hr h => ?_)
  · obtain ⟨a, f, b, rows, fin, o, rfl, _⟩ := h
    rfl
  · obtain ⟨a, f, b, rows, fin, o, rfl, hR, ok, hF, hfl, hS, cl, q⟩ := h
    have hol := nodup_le o rows.length cl.1 cl.2.1
    have hn := ok.2.1
    refine ⟨_, ((pss_cons (Gx.ps_setDc (i := 3) (own := [("state", 4)]) (g := gName 4) (tt := tYes) rfl sc_classes.nd rfl rfl (Gx.sw_dict rfl rfl rfl (by decide +kernel)) (pi_list (pv 2)) (blkOk_by (N := ["rows", "finals", "order", "marks", "state", "many", "_", "step"]) (sc := defScope s_classes) (by decide +kernel)) (fun _ _ _ _ _ => (pg_name (i := 4) sc_classes.nd rfl (Or.inl rfl))) (fun _ _ _ _ _ => pts_nil) (fun _ _ _ _ _ => (pv 4)) (fun _ _ _ _ _ => (pe_callTy Gx.cr_int1 (by rfl) T.z_int bt_int (pa_cons (pe_ix (r := rIx K) ix_seq (pv 1) (pv 4) (fun _ _ => rfl)) pa_nil))))
  (pss_cons (ps_set (i := 5) sc_classes.nd rfl (Or.inl rfl) pe_int)
  (pss_cons (ps_for PassesOwn.never rfl (pi_range1 rfl T.z_range (pa_cons (pe_op op_add (pe_callB Gx.cr_lenQ (by rfl) T.z_len bt_len (pa_cons (pv 2) pa_nil)) pe_int) pa_nil)) (pg_name (i := 6) sc_classes.nd rfl (Or.inl rfl))
  (pss_cons (ps_set (i := 7) sc_classes.nd rfl (Or.inl rfl) (pe_call G_refined (hr.mono (by first | decide | omega)) (by rfl) T.g_refined T.F_refined.kp T.b_refined .nil pass0 (pa_cons (pv 0) (pa_cons (pv 2) (pa_cons (pv 3) pa_nil)))))
  (pss_cons (ps_if (pt_cmpR op_eq (pe_ix ix_tup (pv 7) pe_int (fun _ _ => rfl)) (pv 5) (nomark _))
  (pss_one (ps_ret (pv 3)))
  pss_nil)
  (pss_cons (ps_set (i := 3) sc_classes.nd rfl (Or.inl rfl) (pe_ix ix_tup (pv 7) pe_int (fun _ _ => rfl)))
  (pss_one (ps_set (i := 5) sc_classes.nd rfl (Or.inl rfl) (pe_ix ix_tup (pv 7) pe_int (fun _ _ => rfl))))))))
  (pss_one (ps_ret (pv 3))))))), ?_⟩
    rw [st_classes]
    try dsimp only [cxOf]
    walk_at "g"
    refine ⟨⟨_, hS⟩, fun D nD => Gx.dc_list (H0 := H) (xs := o.map fun n => V.int (n : Nat)) (fun i H1 => Same H H1 ∧ ∃ kvs : List (Key × V), H1 D = some (.dK kvs) ∧ kvs.length ≤ i ∧ ∀ s ∈ o.take i, valV kvs (.inl (s : Nat)) = some (.int ((if fin.getD s false then 1 else 0 : Nat) : Nat))) hS
      ⟨Gx.Same.put (Same.refl H) nD, [], upd_same, Nat.le_refl _, fun s hs => by simp at hs⟩ (fun i H1 _ z => z.1) ?_ ?_⟩
    · rintro i x H1 hi ⟨s1, kvs, e1, l1, v1⟩
      rw [List.getElem?_map] at hi
      cases hoi : o[i]? with
      | none => rw [hoi] at hi; cases hi
      | some s =>
        rw [hoi] at hi
        obtain rfl := Option.some.inj hi
        have hso := List.mem_of_getElem? hoi
        have hil := (List.getElem?_eq_some_iff.mp hoi).1
        have hsn := cl.2.1 s hso
        walk_at "g"
        refine ⟨rfl, ?_⟩
        walk_at "g"
        refine Gx.ixQ (hF.same s1) rfl (v := .bl (fin.getD s false)) (by rw [List.getElem?_map, List.getElem?_eq_getElem (by omega), List.getD_eq_getElem?_getD, List.getElem?_eq_getElem (by omega)]; rfl) ?_
        walk_at "g"
        have hlp := length_putK kvs (.inl (s : Nat)) (V.int (if fin.getD s false = true then 1 else 0))
        refine ⟨kvs, .inl (s : Nat), rfl, e1, by rw [sizeLine_eq]; omega, Gx.Same.put s1 nD, _, upd_same, by omega, fun x hx => ?_⟩
        rw [valV_put]
        by_cases e : x = s
        · subst e
          rw [if_pos rfl]
          cases fin.getD x false <;> rfl
        · rw [if_neg (by intro z; injection z with z; omega)]
          refine v1 x ?_
          rw [List.take_add_one, hoi, Option.toList_some] at hx
          rcases List.mem_append.mp hx with h | h
          · exact h
          · exact absurd (List.mem_singleton.mp h) e
    · rintro H1 ⟨s1, kvs, e1, l1, v1⟩
      rw [List.length_map] at l1 v1
      rw [List.take_length] at v1
      have hS1 := s1.seq hS
      walk_at "g"
      refine ⟨_, rfl, by omega, by omega, for_range (fun i σ H' => ∃ (m : Addr) (mk : Nat → Nat) (c : Nat) (y1 y2 : Option V), Same H H' ∧ Gx.DM H' m o.length o mk ∧ Marks rows fin o i mk c ∧ σ = [some (.ref a), some (.ref f), some (.ref b), some (.ref m), none, some (.int (c : Nat)), y1, y2])
        ⟨D, fun s => if fin.getD s false then 1 else 0, 0, none, none, s1, ⟨kvs, e1, l1, v1⟩, ⟨fun s hs t ht e => ?_, fun R hR s hs t ht e => ?_, .inl ⟨rfl, rfl⟩, Nat.le_refl _⟩, rfl⟩ ?_ ?_⟩
      · dsimp only at e
        generalize fin.getD s false = b1 at e ⊢
        generalize fin.getD t false = b2 at e ⊢
        cases b1 <;> cases b2 <;> first | rfl | (exact absurd e (by decide))
      · dsimp only
        rw [(hR s t e).1]
      · rintro i σ H2 hi ⟨m, mk, c, y1, y2, s2, dm, mks, rfl⟩
        walk_at "g"
        refine ⟨a, b, m, rows, o, mk, _, rfl, hR.same s2, ok, s2.seq hS, cl, dm, fun H3 u fi c' mk' s3 e3 dm3 ref => ?_⟩
        have ht3 := SqT.of (K := K) e3
        walk_at "g"
        refine Gx.iteD (fun h => ?_) (fun h => ?_)
        · walk_at "g"
          have hc : c' = c := by omega
          subst hc
          exact q H3 m mk (s2.trans s3) (dm.same s3) (mks.stop cl ref)
        · walk_at "g"
          exact ⟨fi, mk', c', _, _, s2.trans s3, dm3, mks.go cl ref (by omega), rfl⟩
      · rintro σ H2 ⟨m, mk, c, y1, y2, s2, dm, mks, rfl⟩
        exfalso
        obtain ⟨_, _, m3, m4⟩ := mks
        rcases m3 with ⟨h, _⟩ | ⟨_, on⟩
        · omega
        · have := onto_le on
          omega
end
end K03
namespace K03
open PySem PySem.Spec PyProof.Rows L2
local macro_rules | `(tactic| walk_at "con") => `(tactic| first | with_reducible refine Gx.conE K03.ks0 ?_ | with_reducible refine Gx.conE K03.ks1 ?_ | with_reducible refine Gx.conE K03.ks2 ?_ | with_reducible refine Gx.conE K03.ks3 ?_ | with_reducible refine Gx.conE K03.ks4 ?_ | with_reducible refine Gx.conE K03.ks5 ?_ | with_reducible refine Gx.conE K03.ks6 ?_ | with_reducible refine Gx.conE K03.ks7 ?_ | with_reducible refine Gx.conE K03.ks8 ?_ | with_reducible refine Gx.conE K03.ks9 ?_ | with_reducible refine Gx.conE K03.ks10 ?_ | with_reducible refine Gx.conE K03.ks11 ?_ | with_reducible refine Gx.conE K03.ks12 ?_ | with_reducible refine Gx.conE K03.ks13 ?_ | with_reducible refine Gx.conE K03.ks14 ?_ | with_reducible refine Gx.conE K03.ks15 ?_)
section
variable {P : Program} {w : World} {K : PySem.W.Frag} {mg : Str → Option Value} {base : Heap}
/-- t is picked if no state of its mark is -/
def pick1 (mk : Nat → Nat) (pk : List Nat) (t : Nat) : List Nat := if mk t ∈ pk.map mk then pk else pk ++ [t]
/-- the states picked, breadth-first, once the moves of the first at_ of them are gone through -/
inductive Bfs (rows : List (List Nat)) (mk : Nat → Nat) (s0 : Nat) : Nat → List Nat → Prop
  | start : Bfs rows mk s0 0 [s0]
  | step {at_ : Nat} {pk : List Nat} {s : Nat} : Bfs rows mk s0 at_ pk → pk[at_]? = some s → Bfs rows mk s0 (at_ + 1) ((rows.getD s []).foldl (pick1 mk) pk)
def newRow (mk : Nat → Nat) (pk : List Nat) (row : List Nat) : List Nat := row.map fun t => (pk.map mk).idxOf (mk t)
def rowD (row : List Nat) : PyData := .tuple (row.map fun n => PyData.int (n : Nat))
def rowsD (rows : List (List Nat)) : PyData := .tuple (rows.map rowD)
def finsD (fin : List Bool) : PyData := .tuple (fin.map PyData.bool)
/-- the least machine by these marks -/
def lRows (rows : List (List Nat)) (mk : Nat → Nat) (pk : List Nat) : List (List Nat) := pk.map fun s => newRow mk pk (rows.getD s [])
def lFins (fin : List Bool) (pk : List Nat) : List Bool := pk.map fun s => fin.getD s false
/-- the marks picked, numbered -/
def NmOk (mk : Nat → Nat) (pk : List Nat) (kn : List (Key × V)) : Prop := kn.length ≤ pk.length ∧ ∀ m : Nat, valV kn (.inl (m : Nat)) = if m ∈ pk.map mk then some (V.int ((pk.map mk).idxOf m : Nat)) else none
theorem NmOk.put {mk : Nat → Nat} {pk : List Nat} {kn : List (Key × V)} (h : NmOk mk pk kn) {t : Nat} (n : mk t ∉ pk.map mk) : NmOk mk (pk ++ [t]) (putK kn (.inl (mk t : Nat)) (.int (pk.length : Nat))) := by
  have hl := length_putK kn (.inl (mk t : Nat)) (V.int (pk.length : Nat))
  have h1 := h.1
  refine ⟨by rw [List.length_append, List.length_singleton]; omega, fun m => ?_⟩
  rw [valV_put, List.map_append, List.map_singleton]
  by_cases e : m = mk t
  · subst e
    rw [if_pos rfl, if_pos (by simp), List.idxOf_append, if_neg n]
    simp
  · rw [if_neg (by intro z; injection z with z; omega), h.2 m]
    by_cases q : m ∈ pk.map mk
    · rw [if_pos q, if_pos (List.mem_append_left _ q), List.idxOf_append, if_pos q]
    · rw [if_neg q, if_neg]
      intro z
      rcases List.mem_append.mp z with z | z
      · exact q z
      · exact e (List.mem_singleton.mp z)
theorem newRow_grow {mk : Nat → Nat} {pk z : List Nat} {row : List Nat} (h : ∀ t ∈ row, mk t ∈ pk.map mk) : newRow mk (pk ++ z) row = newRow mk pk row := by
  unfold newRow
  refine List.map_congr_left fun t ht => ?_
  rw [List.map_append, List.idxOf_append, if_pos (h t ht)]
theorem pick1_pre (mk : Nat → Nat) (pk : List Nat) (t : Nat) : ∃ z, pick1 mk pk t = pk ++ z := by
  unfold pick1
  split
  · exact ⟨[], (List.append_nil _).symm⟩
  · exact ⟨[t], rfl⟩
theorem pick1_mem (mk : Nat → Nat) (pk : List Nat) (t : Nat) : mk t ∈ (pick1 mk pk t).map mk := by
  unfold pick1
  split
  · assumption
  · simp
theorem noLs_rows : ∀ l : List (List Nat), Gx.noLs (l.map rowD) = true
  | [] => rfl
  | r :: l => by
    have hi : ∀ r : List Nat, Gx.noLs (r.map fun n => PyData.int (n : Nat)) = true := by
      intro r
      induction r with
      | nil => rfl
      | cons x r ih => rw [List.map_cons, Gx.noLs, ih]; rfl
    rw [List.map_cons, Gx.noLs, noLs_rows l, rowD, Gx.noL, hi r]
    rfl
theorem tups_upd {H : Hp} {p : Addr} {u v : HO} (h : H p = some u) (n1 : ∀ xs, u ≠ .tup xs) (n2 : ∀ o w, u ≠ .frz o w) : Gx.Tups K H (upd H p v) := fun a us q => by
  rcases q with (q | ⟨o, q⟩) | q
  · exact .inl (.inl (by rw [upd_ne (ne_of q h (n1 _).symm)]; exact q))
  · exact .inl (.inr ⟨o, by rw [upd_ne (ne_of q h (n2 _ _).symm)]; exact q⟩)
  · exact .inr q
theorem nodup_of_map {f : Nat → Nat} : ∀ {l : List Nat}, (l.map f).Nodup → l.Nodup
  | [], _ => List.nodup_nil
  | x :: l, h => by
    rw [List.map_cons, List.nodup_cons] at h
    exact List.nodup_cons.mpr ⟨fun m => h.1 (List.mem_map_of_mem m), nodup_of_map h.2⟩
/-- what `least` goes by: closed states, the coarsest marks, the states picked -/
def LeastOf (rows : List (List Nat)) (fin : List Bool) (o : List Nat) (mk : Nat → Nat) (pk : List Nat) : Prop := Closed rows o ∧ Coarse rows fin o mk ∧ Bfs rows mk 0 pk.length pk ∧ (∀ s ∈ pk, s ∈ o) ∧ (pk.map mk).Nodup
def sp_least (K : PySem.W.Frag) : Sp := fun vs H Q _ => ∃ (a f : Addr) (rows : List (List Nat)) (fin : List Bool), vs = [.ref a, .ref f] ∧ RowsAt K H a rows ∧ RowsOk rows ∧ Gx.Sq K H f (fin.map V.bl) ∧ fin.length = rows.length ∧
  ∀ H' u x y o mk pk, Same H H' → H' u = some (.tup [x, y]) → LeastOf rows fin o mk pk → Dp K H' x (rowsD (lRows rows mk pk)) → Dp K H' y (finsD (lFins fin pk)) → Q (.ref u) H'
theorem G_least (T : Txt K mg w) : FnOk P w K mg base CX0 3 T.f_least T.fd_least ["rows", "finals"] (sp_least K) := by
  have G_reached := G_reached (P := P) (w := w) (base := base) T
  have G_classes := G_classes (P := P) (w := w) (base := base) T
  refine T.F_least.ok sc_least (fun vs H Q E h => ?_) (fun cdv A outer s H vs Q E hr h => ?_)
  · obtain ⟨a, f, rows, fin, rfl, _⟩ := h
    rfl
  · obtain ⟨a, f, rows, fin, rfl, hR, ok, hF, hfl, q⟩ := h
    have hn := ok.2.1
    refine ⟨_, ((pss_cons (ps_set (i := 2) sc_least.nd rfl (Or.inl rfl) (pe_call G_classes (hr.mono (by first | decide | omega)) (by rfl) T.g_classes T.F_classes.kp T.b_classes .nil pass0 (pa_cons (pv 0) (pa_cons (pv 1) (pa_cons (pe_call G_reached (hr.mono (by first | decide | omega)) (by rfl) T.g_reached T.F_reached.kp T.b_reached .nil pass0 (pa_cons (pv 0) pa_nil)) pa_nil)))))
  (pss_cons (ps_set (i := 3) sc_least.nd rfl (Or.inl rfl) (pe_disp (pps_cons (pe_dget (Gx.hu1 hr.units) (pv 2) pe_int (fun _ _ => rfl)) pe_int pps_nil) rfl rfl (by decide) (by decide)))
  (pss_cons (ps_set (i := 4) sc_least.nd rfl (Or.inl rfl) (pe_lst (pa_cons pe_int pa_nil)))
  (pss_cons (ps_set (i := 5) sc_least.nd rfl (Or.inl rfl) (pe_lst pa_nil))
  (pss_cons (ps_set (i := 6) sc_least.nd rfl (Or.inl rfl) pe_int)
  (pss_cons (ps_while PassesOwn.never (pt_cmpR op_lt (pv 6) (pe_callB Gx.cr_lenQ (by rfl) T.z_len bt_len (pa_cons (pv 4) pa_nil)) (nomark _))
  (pss_cons (ps_set (i := 7) sc_least.nd rfl (Or.inl rfl) (pe_lst pa_nil))
  (pss_cons (ps_for PassesOwn.never rfl (Gx.pi_seq (pe_ix ix_seq (pv 0) (pe_ix ix_list (pv 4) (pv 6) (fun _ _ => rfl)) (fun _ _ => rfl))) (pg_name (i := 8) sc_least.nd rfl (Or.inl rfl))
  (pss_cons (ps_set (i := 9) sc_least.nd rfl (Or.inl rfl) (pe_dget (Gx.hu1 hr.units) (pv 2) (pv 8) (fun _ _ => rfl)))
  (C8.pss_cut (ps_if (pt_cmp (pc_dnotin (Gx.hu1 hr.units) (pv 9) (pv 3)))
  (pss_cons (ps_dput (Gx.hu1 hr.units) (pv 3) (pv 9) (pe_callB Gx.cr_lenQ (by rfl) T.z_len bt_len (pa_cons (pv 4) pa_nil)) rfl)
  (pss_one (ps_expr (pe_bm PySem.F.plainAttrs_list PySem.F.slot_list_append PySem.F.type_list_append mt_append (pv 4) (pa_cons (pv 8) pa_nil)))))
  pss_nil)
  (pss_one (ps_expr (pe_bm PySem.F.plainAttrs_list PySem.F.slot_list_append PySem.F.type_list_append mt_append (pv 7) (pa_cons (pe_dget (Gx.hu1 hr.units) (pv 3) (pv 9) (fun _ _ => rfl)) pa_nil)))))))
  (pss_cons (ps_expr (pe_bm PySem.F.plainAttrs_list PySem.F.slot_list_append PySem.F.type_list_append mt_append (pv 5) (pa_cons (pe_callTy Gx.cr_tupL (by rfl) T.z_tuple bt_tuple (pa_cons (pv 7) pa_nil)) pa_nil)))
  (pss_one (ps_aug (i := 6) sc_least.nd rfl (Or.inl rfl) pe_int ip_add))))))
  (pss_one (ps_ret (pe_tup (pa_cons (pe_callTy Gx.cr_tupL (by rfl) T.z_tuple bt_tuple (pa_cons (pv 5) pa_nil)) (pa_cons (pe_callTy Gx.cr_tupL (by rfl) T.z_tuple bt_tuple (pa_cons (pe_lc (own := [("state", 10)]) (g := gName 10) (tt := tYes) (by rfl) sc_least.nd (pi_list (pv 4)) (blkOk_by (N := ["rows", "finals", "marks", "names", "picked", "least_rows", "at", "row", "target", "mark", "state"]) (sc := defScope s_least) (by decide +kernel)) (fun _ _ _ _ _ => (pg_name (i := 10) sc_least.nd rfl (Or.inl rfl))) (fun _ _ _ _ _ => pts_nil) (fun _ _ _ _ _ => (pe_callTy Gx.cr_bool1 (by rfl) T.z_bool bt_bool (pa_cons (pe_ix (r := rIx K) ix_seq (pv 1) (pv 10) (fun _ _ => rfl)) pa_nil)))) pa_nil)) pa_nil)))))))))))), ?_⟩
    rw [st_least]
    try dsimp only [cxOf]
    walk_at "g"
    refine ⟨a, rows, rfl, hR, ok, fun H1 p o s1 e1 cl => ?_⟩
    walk_at "g"
    refine ⟨a, f, p, rows, fin, o, rfl, hR.same s1, ok, hF.same s1, hfl, SqL.of e1, cl, fun H2 m mk s2 dm co => ?_⟩
    have h0 : 0 ∈ o := List.mem_of_getElem? cl.2.2.1
    have s02 := s1.trans s2
    walk_at "g"
    intro d nd
    have E3 := Gx.ext1 (o := .dK []) nd
    walk_at "g"
    refine ⟨_, _, rfl, DM.get (dm.same E3.same) h0, ?_⟩
    walk_at "g"
    refine ⟨upd_same, [(.inl (mk 0 : Nat), .int 0)], rfl, by show 1 ≤ 15; omega, ?_⟩
    have nd0 : H d = none := s02.free nd
    have s3 : Same H2 (upd (upd H2 d (.dK [])) d (.dK (mergeK [] [(.inl (mk 0 : Nat), .int 0)]))) := Gx.Same.put E3.same nd
    have d3 : (upd (upd H2 d (.dK [])) d (.dK (mergeK [] [(.inl (mk 0 : Nat), .int 0)]))) d = some (.dK [(.inl (mk 0 : Nat), .int 0)]) := upd_same
    generalize upd (upd H2 d (.dK [])) d (.dK (mergeK [] [(.inl (mk 0 : Nat), .int 0)])) = H3 at s3 d3 ⊢
    clear E3
    walk_at "g"
    refine Gx.newL (by show 1 ≤ 16777216; decide) fun pp H4 E4 => ?_
    walk_at "g"
    refine Gx.newL (by show 0 ≤ 16777216; decide) fun lr H5 E5 => ?_
    walk_at "g"
    have npp : H2 pp = none := s3.free E4.fresh
    have nlr : H2 lr = none := s3.free (E4.same.free E5.fresh)
    refine Gx.wh (W := fun m' σ H' => ∃ (at_ : Nat) (pk : List Nat) (vs : List V) (kn : List (Key × V)) (y7 y8 y9 : Option V), Same H2 H' ∧ H' d = some (.dK kn) ∧ NmOk mk pk kn ∧ H' pp = some (.lst (pk.map fun n => V.int (n : Nat))) ∧ H' lr = some (.lst vs) ∧
        DpAll K H' vs (((pk.take at_).map fun s => newRow mk pk (rows.getD s [])).map rowD) ∧ Bfs rows mk 0 at_ pk ∧ (∀ s ∈ pk, s ∈ o) ∧ (pk.map mk).Nodup ∧ (∀ s ∈ pk.take at_, ∀ t ∈ rows.getD s [], mk t ∈ pk.map mk) ∧ at_ ≤ pk.length ∧ m' = rows.length - at_ ∧
        σ = [some (.ref a), some (.ref f), some (.ref m), some (.ref d), some (.ref pp), some (.ref lr), some (.int (at_ : Nat)), y7, y8, y9, none])
      (m0 := rows.length) ⟨0, [0], [], _, none, none, none, (s3.trans E4.same).trans E5.same, E5.same _ _ (E4.same _ _ d3), ⟨Nat.le_refl _, fun k => ?_⟩, E5.same _ _ E4.at_, E5.at_, .nil, .start, (fun s hs => by cases List.mem_singleton.mp hs; exact h0), by simp, (fun s hs => by simp at hs), Nat.zero_le _, rfl, rfl⟩ ?_
    · rw [List.map_singleton]
      by_cases e : k = mk 0
      · subst e
        rw [valV_pos rfl, if_pos (List.mem_singleton.mpr rfl)]
        simp
      · rw [valV_neg (by intro z; injection z with z; omega), if_neg (fun z => e (List.mem_singleton.mp z))]
        rfl
    · rintro m' σ H6 ⟨at_, pk, vs, kn, y7, y8, y9, s6, d6, nm, p6, l6, v6, bfs, sub, nd6, tk, hat, rfl, rfl⟩
      have hS6 := SqL.of (K := K) p6
      have hpl : pk.length ≤ rows.length := by
        have := nodup_sub pk o (nodup_of_map nd6) sub
        have := nodup_le o rows.length cl.1 cl.2.1
        omega
      walk_at "g"
      refine Gx.iteD (fun c => ⟨_, fun σ' H' z => z, ?_⟩) (fun c => ?_)
      · have c' : at_ < pk.length := by omega
        obtain ⟨s, hs⟩ : ∃ s, pk[at_]? = some s := ⟨_, List.getElem?_eq_getElem c'⟩
        have hso := sub s (List.mem_of_getElem? hs)
        have hsn := cl.2.1 s hso
        obtain ⟨row, hrw⟩ : ∃ row, rows[s]? = some row := ⟨_, List.getElem?_eq_getElem hsn⟩
        have hgd : rows.getD s [] = row := by rw [List.getD_eq_getElem?_getD, hrw]; rfl
        have hto : ∀ t ∈ row, t ∈ o := fun t ht => cl.2.2.2 s hso t (by rw [hgd]; exact ht)
        obtain ⟨hrl, hrt⟩ := ok.2.2 row (List.mem_of_getElem? hrw)
        obtain ⟨us, hq, hl, hrow⟩ := id hR
        have s06 := s02.trans s6
        obtain ⟨r, hr1, hr2⟩ := hrow s row hrw
        walk_at "g"
        refine Gx.newL (by show 0 ≤ 16777216; decide) fun ro H7 E7 => ?_
        have nro : H2 ro = none := s6.free E7.fresh
        walk_at "g"
        refine Gx.ixL (SqL.of (E7.same _ _ p6)) (Gx.atI_of (k := at_) rfl (v := .int (s : Nat)) (by rw [List.getElem?_map, hs]; rfl)) ?_
        walk_at "g"
        refine Gx.ixQ (hq.same (s06.trans E7.same)) rfl hr1 ?_
        walk_at "g"
        refine Gx.for_sq (H0 := H) (fun i σ H' => ∃ (pk' z : List Nat) (kn' : List (Key × V)) (y8 y9 : Option V), pk' = pk ++ z ∧ Same H2 H' ∧ H' d = some (.dK kn') ∧ NmOk mk pk' kn' ∧ H' pp = some (.lst (pk'.map fun n => V.int (n : Nat))) ∧ H' lr = some (.lst vs) ∧
            DpAll K H' vs (((pk.take at_).map fun s => newRow mk pk (rows.getD s [])).map rowD) ∧ pk' = (row.take i).foldl (pick1 mk) pk ∧ (∀ s ∈ pk', s ∈ o) ∧ (pk'.map mk).Nodup ∧ (∀ t ∈ row.take i, mk t ∈ pk'.map mk) ∧
            H' ro = some (.lst ((row.take i).map fun t => V.int ((pk'.map mk).idxOf (mk t) : Nat))) ∧
            σ = [some (.ref a), some (.ref f), some (.ref m), some (.ref d), some (.ref pp), some (.ref lr), some (.int (at_ : Nat)), some (.ref ro), y8, y9, none])
          hr2 ⟨pk, [], kn, y8, y9, (List.append_nil _).symm, s6.trans E7.same, E7.same _ _ d6, nm, E7.same _ _ p6, E7.same _ _ l6, Gx.dpAll_same E7.same _ _ v6, rfl, sub, nd6, (fun t ht => by simp at ht), E7.at_, rfl⟩ (fun i σ H' _ ⟨_, _, _, _, _, _, e, _⟩ => s02.trans e) ?_ ?_
        · rintro i x σ H8 hi ⟨pk', z, kn', y8, y9, epk, s8, d8, nm8, p8, l8, v8, fo, sub8, nd8, tk8, r8, rfl⟩
          rw [List.getElem?_map] at hi
          cases hti : row[i]? with
          | none => rw [hti] at hi; cases hi
          | some t =>
            rw [hti] at hi
            obtain rfl := Option.some.inj hi
            have hot := hto t (List.mem_of_getElem? hti)
            walk_at "g"
            refine ⟨_, _, rfl, DM.get (dm.same s8) hot, ?_⟩
            walk_at "g"
            have hpl8 : pk'.length ≤ rows.length := by
              have := nodup_sub pk' o (nodup_of_map nd8) sub8
              have := nodup_le o rows.length cl.1 cl.2.1
              omega
            have npl : pp ≠ lr := ne_of_none E4.at_ E5.fresh
            have npr : pp ≠ ro := ne_of_none p6 E7.fresh
            have nlo : lr ≠ ro := ne_of_none l6 E7.fresh
            refine ⟨fun σ H' => ∃ (z' : List Nat) (kn'' : List (Key × V)), pick1 mk pk' t = pk ++ z' ∧ Same H2 H' ∧ H' d = some (.dK kn'') ∧ NmOk mk (pick1 mk pk' t) kn'' ∧ H' pp = some (.lst ((pick1 mk pk' t).map fun n => V.int (n : Nat))) ∧ H' lr = some (.lst vs) ∧
                DpAll K H' vs (((pk.take at_).map fun s => newRow mk pk (rows.getD s [])).map rowD) ∧ (∀ s ∈ pick1 mk pk' t, s ∈ o) ∧ ((pick1 mk pk' t).map mk).Nodup ∧
                H' ro = some (.lst ((row.take i).map fun t => V.int ((pk'.map mk).idxOf (mk t) : Nat))) ∧
                σ = [some (.ref a), some (.ref f), some (.ref m), some (.ref d), some (.ref pp), some (.ref lr), some (.int (at_ : Nat)), some (.ref ro), some (.int (t : Nat)), some (.int (mk t : Nat)), none], ?_, ?_⟩
            · walk_at "g"
              refine ⟨_, _, rfl, DGet.k (k := .inl (mk t : Nat)) d8, _, rfl, ?_⟩
              rw [nm8.2 (mk t)]
              by_cases hin : mk t ∈ pk'.map mk
              · rw [if_pos hin, if_neg (by rw [Option.isSome_some]; decide)]
                have e1 : pick1 mk pk' t = pk' := if_pos hin
                rw [e1]
                walk_at "g"
                exact ⟨z, kn', epk, s8, d8, nm8, p8, l8, v8, sub8, nd8, r8, rfl⟩
              · rw [if_neg hin, if_pos (show (!Option.isSome (none : Option V)) = true from rfl)]
                have e1 : pick1 mk pk' t = pk' ++ [t] := if_neg hin
                rw [e1]
                walk_at "g"
                refine Gx.lenL (SqL.of p8) ?_
                rw [List.length_map]
                walk_at "g"
                refine ⟨_, _, rfl, DPut.k (k := .inl (mk t : Nat)) d8 (by have := nm8.1; rw [sizeLine_eq]; omega), ?_⟩
                have hne : ∀ {x : Addr} {xs : List V}, H8 x = some (.lst xs) → x ≠ d := fun {x xs} e => ne_of e d8 (by intro z; cases z)
                have p9 : (upd H8 d (.dK (putK kn' (.inl (mk t : Nat)) (.int (pk'.length : Nat))))) pp = some (.lst (pk'.map fun n => V.int (n : Nat))) := by rw [upd_ne (hne p8)]; exact p8
                have l9 : (upd H8 d (.dK (putK kn' (.inl (mk t : Nat)) (.int (pk'.length : Nat))))) lr = some (.lst vs) := by rw [upd_ne (hne l8)]; exact l8
                have r9 : (upd H8 d (.dK (putK kn' (.inl (mk t : Nat)) (.int (pk'.length : Nat))))) ro = some (.lst ((row.take i).map fun t => V.int ((pk'.map mk).idxOf (mk t) : Nat))) := by rw [upd_ne (hne r8)]; exact r8
                have d9 : (upd H8 d (.dK (putK kn' (.inl (mk t : Nat)) (.int (pk'.length : Nat))))) d = some (.dK (putK kn' (.inl (mk t : Nat)) (.int (pk'.length : Nat)))) := upd_same
                have s9 : Same H2 (upd H8 d (.dK (putK kn' (.inl (mk t : Nat)) (.int (pk'.length : Nat))))) := Gx.Same.put s8 nd
                have v9 := Gx.dpAll_tups (tups_upd (K := K) (v := .dK (putK kn' (.inl (mk t : Nat)) (.int (pk'.length : Nat)))) d8 (fun _ z => by cases z) (fun _ _ z => by cases z)) _ _ (noLs_rows _) v8
                generalize upd H8 d (.dK (putK kn' (.inl (mk t : Nat)) (.int (pk'.length : Nat)))) = H9 at p9 l9 r9 d9 s9 v9 ⊢
                walk_at "g"
                refine Gx.app p9 (by rw [List.length_map, sizeLine_eq]; omega) ?_
                walk_at "g"
                refine ⟨z ++ [t], _, by rw [epk, List.append_assoc], Gx.Same.put s9 npp, by rw [upd_ne (ne_of d9 p9 (by intro z; cases z))]; exact d9, nm8.put hin, by rw [upd_same, List.map_append]; rfl, by rw [upd_ne npl.symm]; exact l9,
                  Gx.dpAll_tups (tups_upd (K := K) p9 (fun _ z => by cases z) (fun _ _ z => by cases z)) _ _ (noLs_rows _) v9, fun s hs => ?_, ?_, by rw [upd_ne npr.symm]; exact r9, rfl⟩
                · rcases List.mem_append.mp hs with h | h
                  · exact sub8 s h
                  · cases List.mem_singleton.mp h
                    exact hot
                · rw [List.map_append, List.map_singleton]
                  exact nodup_snoc nd8 hin
            · rintro σ H9 ⟨z', kn'', epk', s9, d9, nm9, p9, l9, v9, sub9, nd9, r9, rfl⟩
              have hit := pick1_mem mk pk' t
              have hg := DGet.k (k := .inl (mk t : Nat)) d9
              rw [nm9.2 (mk t), if_pos hit] at hg
              walk_at "g"
              refine ⟨_, _, rfl, hg, ?_⟩
              walk_at "g"
              refine Gx.app r9 (by rw [List.length_map, List.length_take, sizeLine_eq]; omega) ?_
              walk_at "g"
              have htk : ∀ x ∈ row.take (i + 1), x ∈ row.take i ∨ x = t := fun x hx => by
                rw [List.take_add_one, hti, Option.toList_some] at hx
                rcases List.mem_append.mp hx with h | h
                · exact .inl h
                · exact .inr (List.mem_singleton.mp h)
              obtain ⟨w9, ew⟩ := pick1_pre mk pk' t
              have hgr : ∀ x, mk x ∈ pk'.map mk → mk x ∈ (pick1 mk pk' t).map mk ∧ ((pick1 mk pk' t).map mk).idxOf (mk x) = (pk'.map mk).idxOf (mk x) := fun x hx => by
                rw [ew, List.map_append]
                exact ⟨List.mem_append_left _ hx, by rw [List.idxOf_append, if_pos hx]⟩
              refine ⟨pick1 mk pk' t, z', kn'', _, _, epk', Gx.Same.put s9 nro, by rw [upd_ne (ne_of d9 r9 (by intro z; cases z))]; exact d9, nm9, by rw [upd_ne npr]; exact p9, by rw [upd_ne nlo]; exact l9,
                Gx.dpAll_tups (tups_upd (K := K) r9 (fun _ z => by cases z) (fun _ _ z => by cases z)) _ _ (noLs_rows _) v9, ?_, sub9, nd9, fun x hx => ?_, ?_, rfl⟩
              · rw [List.take_add_one, hti, Option.toList_some, List.foldl_append, ← fo]
                rfl
              · rcases htk x hx with h | rfl
                · exact (hgr x (tk8 x h)).1
                · exact hit
              · rw [upd_same, List.take_add_one, hti, Option.toList_some, List.map_append]
                congr 3
                refine List.map_congr_left fun x hx => ?_
                rw [(hgr x (tk8 x hx)).2]
        · rintro σ H8 ⟨pk', z, kn', y8, y9, epk, s8, d8, nm8, p8, l8, v8, fo, sub8, nd8, tk8, r8, rfl⟩
          rw [List.length_map, List.take_length] at fo tk8 r8
          have npl : pp ≠ lr := ne_of_none E4.at_ E5.fresh
          walk_at "g"
          refine Gx.tupL (SqL.of r8) fun c0 nc => ?_
          have E9 := Gx.ext1 (o := .tup (row.map fun t => V.int ((pk'.map mk).idxOf (mk t) : Nat))) nc
          generalize upd H8 c0 (.tup (row.map fun t => V.int ((pk'.map mk).idxOf (mk t) : Nat))) = H9 at E9 ⊢
          walk_at "g"
          have hvl := Gx.dpAll_len v8
          rw [List.length_map, List.length_map, List.length_take] at hvl
          refine Gx.app (E9.same _ _ l8) (by rw [sizeLine_eq]; omega) ?_
          walk_at "g"
          have dc : Dp K H9 (.ref c0) (rowD (newRow mk pk' row)) := by
            refine .tup (SqT.of E9.at_) ?_
            have := Gx.dpAll_ints (K := K) (H := H9) (row.map fun t => (((pk'.map mk).idxOf (mk t) : Nat) : Int))
            rw [List.map_map, List.map_map] at this
            rw [newRow, List.map_map]
            exact this
          have hrowN : ∀ r : List Nat, Gx.noL (rowD r) = true := fun r => by
            have := noLs_rows [r]
            rw [List.map_singleton, Gx.noLs, Gx.noLs, Bool.and_true] at this
            exact this
          have v10 := Gx.dpAll_snoc (E9.same _ _ l8) (Gx.dpAll_same E9.same _ _ v8) (noLs_rows _) dc (hrowN _)
          have ed : ((pk'.take (at_ + 1)).map fun s => newRow mk pk' (rows.getD s [])).map rowD = ((pk.take at_).map fun s => newRow mk pk (rows.getD s [])).map rowD ++ [rowD (newRow mk pk' row)] := by
            rw [epk, List.take_append_of_le_length (by omega), List.take_add_one, hs, Option.toList_some, List.map_append, List.map_append, List.map_singleton, List.map_singleton, hgd]
            congr 2
            exact List.map_congr_left fun x hx => newRow_grow (tk x hx)
          refine ⟨rows.length - (at_ + 1), by omega, at_ + 1, pk', _, kn', _, _, _, Gx.Same.put (s8.trans E9.same) nlr, by rw [upd_ne (ne_of (E9.same _ _ d8) (E9.same _ _ l8) (by intro z; cases z))]; exact E9.same _ _ d8, nm8, by rw [upd_ne npl]; exact E9.same _ _ p8, upd_same,
            by rw [ed]; exact v10, ?_, sub8, nd8, fun x hx t ht => ?_, by rw [epk, List.length_append]; omega, rfl, rfl⟩
          · rw [fo, ← hgd]
            exact .step bfs hs
          · rw [epk, List.take_append_of_le_length (by omega), List.take_add_one, hs, Option.toList_some] at hx
            rcases List.mem_append.mp hx with h | h
            · rw [epk, List.map_append]
              exact List.mem_append_left _ (tk x h t ht)
            · cases List.mem_singleton.mp h
              rw [hgd] at ht
              exact tk8 t ht
      · have e : at_ = pk.length := by omega
        subst e
        rw [List.take_length] at v6 tk
        walk_at "g"
        refine Gx.tupL (SqL.of l6) fun u1 nu1 => ?_
        have E7 := Gx.ext1 (o := .tup vs) nu1
        generalize upd H6 u1 (.tup vs) = H7 at E7 ⊢
        have hS7 := E7.same.seq hS6
        walk_at "g"
        refine ⟨⟨_, hS7⟩, fun D nD => lc_list (K := K) (a := pp) (xs := pk.map fun n => V.int (n : Nat)) (fun i H' => Same H7 H' ∧ H' D = some (.lst ((pk.take i).map fun s => V.bl (fin.getD s false))))
          ⟨Gx.Same.put (Same.refl H7) nD, upd_same⟩ (fun i H' _ z => z.1.seq hS7) ?_ ?_⟩
        · rintro i x H8 hi ⟨s8, e8⟩
          rw [List.getElem?_map] at hi
          cases hti : pk[i]? with
          | none => rw [hti] at hi; cases hi
          | some s =>
            rw [hti] at hi
            obtain rfl := Option.some.inj hi
            have hsn := cl.2.1 s (sub s (List.mem_of_getElem? hti))
            walk_at "g"
            refine ⟨rfl, ?_⟩
            walk_at "g"
            refine Gx.ixQ (hF.same (((s02.trans s6).trans E7.same).trans s8)) rfl (v := .bl (fin.getD s false)) (by rw [List.getElem?_map, List.getElem?_eq_getElem (by omega), List.getD_eq_getElem?_getD, List.getElem?_eq_getElem (by omega)]; rfl) ?_
            walk_at "g"
            refine ⟨_, e8, by rw [List.length_map, List.length_take, sizeLine_eq]; omega, Gx.Same.put s8 nD, ?_⟩
            rw [upd_same, List.take_add_one, hti, Option.toList_some, List.map_append]
            rfl
        · rintro H8 ⟨s8, e8⟩
          rw [List.length_map, List.take_length] at e8
          walk_at "g"
          refine Gx.tupL (SqL.of e8) fun u2 nu2 => ?_
          have E9 := Gx.ext1 (o := .tup (pk.map fun s => V.bl (fin.getD s false))) nu2
          generalize upd H8 u2 (.tup (pk.map fun s => V.bl (fin.getD s false))) = H9 at E9 ⊢
          walk_at "g"
          refine Gx.newT (by show 2 ≤ 16777216; decide) fun u3 H10 E10 => ?_
          have s710 := (s8.trans E9.same).trans E10.same
          refine q H10 u3 _ _ o mk pk (s02.trans (s6.trans (E7.same.trans s710))) E10.at_ ⟨cl, co, bfs, sub, nd6⟩ (.tup (SqT.of (s710 _ _ E7.at_)) (Gx.dpAll_same (E7.same.trans s710) _ _ v6)) (.tup (SqT.of (E10.same _ _ E9.at_)) ?_)
          unfold lFins
          have hb : ∀ l : List Nat, DpAll K H10 (l.map fun s => V.bl (fin.getD s false)) ((l.map fun s => fin.getD s false).map PyData.bool) := by
            intro l
            induction l with
            | nil => exact .nil
            | cons x l ih => exact .cons (.bl _) ih
          exact hb pk
/-! ### two least machines of automata that answer alike are the same, in plain Lean -/
inductive Rl (R : Nat → Nat → Prop) : List Nat → List Nat → Prop
  | nil : Rl R [] []
  | cons {x y : Nat} {l l' : List Nat} : R x y → Rl R l l' → Rl R (x :: l) (y :: l')
theorem Rl.len {R : Nat → Nat → Prop} : ∀ {l l' : List Nat}, Rl R l l' → l.length = l'.length
  | _, _, .nil => rfl
  | _, _, .cons _ t => by rw [List.length_cons, List.length_cons, t.len]
theorem Rl.get {R : Nat → Nat → Prop} : ∀ {l l' : List Nat}, Rl R l l' → ∀ k, k < l.length → R (l.getD k 0) (l'.getD k 0)
  | _, _, .nil, k, h => absurd h (Nat.not_lt_zero _)
  | _, _, .cons a _, 0, _ => a
  | _, _, .cons _ t, k + 1, h => t.get k (Nat.lt_of_succ_lt_succ h)
theorem Rl.of {R : Nat → Nat → Prop} : ∀ {l l' : List Nat}, l.length = l'.length → (∀ k, k < l.length → R (l.getD k 0) (l'.getD k 0)) → Rl R l l'
  | [], [], _, _ => .nil
  | [], _ :: _, h, _ => by cases h
  | _ :: _, [], h, _ => by cases h
  | x :: l, y :: l', h, g => .cons (g 0 (Nat.succ_pos _)) (Rl.of (Nat.succ.inj h) fun k hk => g (k + 1) (Nat.succ_lt_succ hk))
theorem Rl.app {R : Nat → Nat → Prop} : ∀ {l l' m m' : List Nat}, Rl R l l' → Rl R m m' → Rl R (l ++ m) (l' ++ m')
  | _, _, _, _, .nil, h => h
  | _, _, _, _, .cons a t, h => .cons a (t.app h)
theorem Rl.at_ {R : Nat → Nat → Prop} : ∀ {l l' : List Nat}, Rl R l l' → ∀ {k x y : Nat}, l[k]? = some x → l'[k]? = some y → R x y
  | _, _, .nil, k, x, y, h, _ => by cases h
  | _, _, .cons a _, 0, x, y, h, g => by cases h; cases g; exact a
  | _, _, .cons _ t, k + 1, x, y, h, g => t.at_ (k := k) (by simpa using h) (by simpa using g)
theorem Rl.flip {R : Nat → Nat → Prop} : ∀ {l l' : List Nat}, Rl R l l' → Rl (fun a b => R b a) l' l
  | _, _, .nil => .nil
  | _, _, .cons a t => .cons a t.flip
theorem Rl.imp {R S : Nat → Nat → Prop} : ∀ {l l' : List Nat}, Rl R l l' → (∀ a ∈ l, ∀ b ∈ l', R a b → S a b) → Rl S l l'
  | _, _, .nil, _ => .nil
  | _, _, .cons a t, h => .cons (h _ List.mem_cons_self _ List.mem_cons_self a) (t.imp fun x hx y hy => h x (List.mem_cons_of_mem _ hx) y (List.mem_cons_of_mem _ hy))
theorem Rl.maps {R : Nat → Nat → Prop} {f g : Nat → Nat} (h : ∀ x y, R x y → f x = g y) : ∀ {l l' : List Nat}, Rl R l l' → l.map f = l'.map g
  | _, _, .nil => rfl
  | _, _, .cons a t => by rw [List.map_cons, List.map_cons, h _ _ a, t.maps h]
/-- related states of two automata answer alike -/
def Sim (rows : List (List Nat)) (fin : List Bool) (rows' : List (List Nat)) (fin' : List Bool) (R : Nat → Nat → Prop) : Prop :=
  ∀ s t, R s t → fin.getD s false = fin'.getD t false ∧ Rl R (rows.getD s []) (rows'.getD t [])
theorem Sim.flip {rows rows' : List (List Nat)} {fin fin' : List Bool} {R : Nat → Nat → Prop} (h : Sim rows fin rows' fin' R) : Sim rows' fin' rows fin (fun a b => R b a) := fun s t r => ⟨(h t s r).1.symm, (h t s r).2.flip⟩
theorem Sim.within {rows rows' : List (List Nat)} {fin fin' : List Bool} {R : Nat → Nat → Prop} (h : Sim rows fin rows' fin' R) {o o' : List Nat} (c : Closed rows o) (c' : Closed rows' o') : Sim rows fin rows' fin' (fun a b => R a b ∧ a ∈ o ∧ b ∈ o') :=
  fun s t r => ⟨(h s t r.1).1, (h s t r.1).2.imp fun a ha b hb z => ⟨z, c.2.2.2 s r.2.1 a ha, c'.2.2.2 t r.2.2 b hb⟩⟩
theorem getD_map_lt {f : Nat → Nat} {l : List Nat} {k : Nat} (h : k < l.length) : (l.map f).getD k 0 = f (l.getD k 0) := by
  rw [List.getD_eq_getElem?_getD, List.getD_eq_getElem?_getD, List.getElem?_map, List.getElem?_eq_getElem h]
  rfl
theorem mem_getD {l : List Nat} {k : Nat} (h : k < l.length) : l.getD k 0 ∈ l := by
  rw [List.getD_eq_getElem?_getD, List.getElem?_eq_getElem h]
  exact List.getElem_mem h
theorem marks_imp {rows rows' : List (List Nat)} {fin fin' : List Bool} {R : Nat → Nat → Prop} {o o' : List Nat} {mk mk' : Nat → Nat} (h : Sim rows fin rows' fin' R) (hin : ∀ a b, R a b → a ∈ o ∧ b ∈ o') (k : Coarse rows fin o mk) (k' : Coarse rows' fin' o' mk')
    {a b a' b' : Nat} (r : R a b) (r' : R a' b') (e : mk a = mk a') : mk' b = mk' b' := by
  refine k'.2 (fun t t' => ∃ s s', mk s = mk s' ∧ R s t ∧ R s' t') ?_ b (hin _ _ r).2 b' (hin _ _ r').2 ⟨a, a', e, r, r'⟩
  rintro t t' ⟨s, s', es, q, q'⟩
  obtain ⟨f1, l1⟩ := h s t q
  obtain ⟨f2, l2⟩ := h s' t' q'
  obtain ⟨f3, m3⟩ := k.1 s (hin _ _ q).1 s' (hin _ _ q').1 es
  have ln : (rows.getD s []).length = (rows.getD s' []).length := by
    have := congrArg List.length m3
    simpa using this
  refine ⟨by rw [← f1, ← f2, f3], by rw [← l1.len, ← l2.len, ln], fun j hj => ?_⟩
  have hj1 : j < (rows.getD s []).length := by rw [l1.len]; exact hj
  have hj2 : j < (rows.getD s' []).length := by rw [← ln]; exact hj1
  refine ⟨(rows.getD s []).getD j 0, (rows.getD s' []).getD j 0, ?_, l1.get j hj1, l2.get j hj2⟩
  rw [← getD_map_lt (f := mk) hj1, m3, getD_map_lt hj2]
section
variable {R : Nat → Nat → Prop} {mk mk' : Nat → Nat}
theorem Rl.mem (hk : ∀ a b a' b', R a b → R a' b' → (mk a = mk a' ↔ mk' b = mk' b')) {x y : Nat} (r : R x y) : ∀ {l l' : List Nat}, Rl R l l' → (mk x ∈ l.map mk ↔ mk' y ∈ l'.map mk')
  | _, _, .nil => by simp
  | _, _, .cons a t => by rw [List.map_cons, List.map_cons, List.mem_cons, List.mem_cons, hk _ _ _ _ r a, t.mem hk r]
theorem Rl.idx (hk : ∀ a b a' b', R a b → R a' b' → (mk a = mk a' ↔ mk' b = mk' b')) {x y : Nat} (r : R x y) : ∀ {l l' : List Nat}, Rl R l l' → (l.map mk).idxOf (mk x) = (l'.map mk').idxOf (mk' y)
  | _, _, .nil => rfl
  | _, _, .cons (x := a) (y := b) q t => by
    rw [List.map_cons, List.map_cons, List.idxOf_cons, List.idxOf_cons, t.idx hk r]
    have := hk _ _ _ _ q r
    by_cases e : mk a = mk x
    · rw [beq_iff_eq.mpr e, beq_iff_eq.mpr (this.mp e)]
    · rw [beq_eq_false_iff_ne.mpr e, beq_eq_false_iff_ne.mpr (fun z => e (this.mpr z))]
theorem Rl.pick (hk : ∀ a b a' b', R a b → R a' b' → (mk a = mk a' ↔ mk' b = mk' b')) {x y : Nat} (r : R x y) {l l' : List Nat} (h : Rl R l l') : Rl R (pick1 mk l x) (pick1 mk' l' y) := by
  unfold pick1
  by_cases c : mk x ∈ l.map mk
  · rw [if_pos c, if_pos ((h.mem hk r).mp c)]
    exact h
  · rw [if_neg c, if_neg (fun z => c ((h.mem hk r).mpr z))]
    exact h.app (.cons r .nil)
theorem Rl.picks (hk : ∀ a b a' b', R a b → R a' b' → (mk a = mk a' ↔ mk' b = mk' b')) : ∀ {m m' : List Nat}, Rl R m m' → ∀ {l l' : List Nat}, Rl R l l' → Rl R (m.foldl (pick1 mk) l) (m'.foldl (pick1 mk') l')
  | _, _, .nil, _, _, h => h
  | _, _, .cons a t, _, _, h => t.picks hk (h.pick hk a)
theorem bfs_lock {rows rows' : List (List Nat)} {fin fin' : List Bool} {s0 t0 : Nat} (h : Sim rows fin rows' fin' R) (hk : ∀ a b a' b', R a b → R a' b' → (mk a = mk a' ↔ mk' b = mk' b')) (h0 : R s0 t0) {n : Nat} {pk : List Nat} (b : Bfs rows mk s0 n pk) :
    ∀ {pk' : List Nat}, Bfs rows' mk' t0 n pk' → Rl R pk pk' := by
  induction b with
  | start =>
    intro pk' b'
    cases b'
    exact .cons h0 .nil
  | step _ e ih =>
    intro pk' b'
    cases b' with
    | step b2 e2 => exact (h _ _ ((ih b2).at_ e e2)).2.picks hk (ih b2)
theorem bfs_down {rows : List (List Nat)} {s0 : Nat} {n : Nat} {pk : List Nat} (b : Bfs rows mk s0 n pk) : ∀ m, m ≤ n → ∃ q, Bfs rows mk s0 m q := by
  induction b with
  | start => intro m hm; obtain rfl : m = 0 := by omega
             exact ⟨_, .start⟩
  | step b e ih =>
    intro m hm
    rcases Nat.lt_or_eq_of_le hm with z | rfl
    · exact ih m (by omega)
    · exact ⟨_, .step b e⟩
theorem bfs_len {rows rows' : List (List Nat)} {fin fin' : List Bool} {s0 t0 : Nat} (h : Sim rows fin rows' fin' R) (hk : ∀ a b a' b', R a b → R a' b' → (mk a = mk a' ↔ mk' b = mk' b')) (h0 : R s0 t0) {pk pk' : List Nat} (b : Bfs rows mk s0 pk.length pk) (b' : Bfs rows' mk' t0 pk'.length pk') : pk'.length ≤ pk.length := by
  by_cases c : pk'.length ≤ pk.length
  · exact c
  · obtain ⟨q, hq⟩ := bfs_down b' (pk.length + 1) (by omega)
    cases hq with
    | step b2 e2 =>
      have := (bfs_lock h hk h0 b b2).len
      have := (List.getElem?_eq_some_iff.mp e2).1
      omega
end
/-- automata that answer alike have the same least machine -/
theorem least_unique {rows rows' : List (List Nat)} {fin fin' : List Bool} {R : Nat → Nat → Prop} {o o' : List Nat} {mk mk' : Nat → Nat} {pk pk' : List Nat} (h : Sim rows fin rows' fin' R) (h0 : R 0 0) (L : LeastOf rows fin o mk pk) (L' : LeastOf rows' fin' o' mk' pk') :
    lRows rows mk pk = lRows rows' mk' pk' ∧ lFins fin pk = lFins fin' pk' := by
  obtain ⟨cl, co, bf, sub, nd⟩ := L
  obtain ⟨cl', co', bf', sub', nd'⟩ := L'
  have hW := h.within cl cl'
  have hin : ∀ a b, (R a b ∧ a ∈ o ∧ b ∈ o') → a ∈ o ∧ b ∈ o' := fun a b z => z.2
  have hk : ∀ a b a' b', (R a b ∧ a ∈ o ∧ b ∈ o') → (R a' b' ∧ a' ∈ o ∧ b' ∈ o') → (mk a = mk a' ↔ mk' b = mk' b') := fun a b a' b' r r' =>
    ⟨marks_imp hW hin co co' r r', marks_imp hW.flip (fun a b z => ⟨z.2.2, z.2.1⟩) co' co r r'⟩
  have h00 : R 0 0 ∧ 0 ∈ o ∧ 0 ∈ o' := ⟨h0, List.mem_of_getElem? cl.2.2.1, List.mem_of_getElem? cl'.2.2.1⟩
  have le1 := bfs_len hW hk h00 bf bf'
  have le2 := bfs_len hW.flip (fun a b a' b' r r' => (hk b a b' a' r r').symm) h00 bf' bf
  have el : pk'.length = pk.length := by omega
  rw [el] at bf'
  have rl := bfs_lock hW hk h00 bf bf'
  constructor
  · unfold lRows
    have go : ∀ {l l' : List Nat}, Rl (fun a b => R a b ∧ a ∈ o ∧ b ∈ o') l l' → (l.map fun s => newRow mk pk (rows.getD s [])) = l'.map fun s => newRow mk' pk' (rows'.getD s []) := by
      intro l l' hl
      induction hl with
      | nil => rfl
      | cons a t ih =>
        rw [List.map_cons, List.map_cons, ih]
        congr 1
        exact Rl.maps (f := fun t => (pk.map mk).idxOf (mk t)) (g := fun t => (pk'.map mk').idxOf (mk' t)) (fun x y r => rl.idx hk r) (hW _ _ a).2
    exact go rl
  · unfold lFins
    have go : ∀ {l l' : List Nat}, Rl (fun a b => R a b ∧ a ∈ o ∧ b ∈ o') l l' → (l.map fun s => fin.getD s false) = l'.map fun s => fin'.getD s false := by
      intro l l' hl
      induction hl with
      | nil => rfl
      | cons a t ih => rw [List.map_cons, List.map_cons, ih, (hW _ _ a).1]
    exact go rl
/-- at most as many states as were there -/
theorem least_le {rows : List (List Nat)} {fin : List Bool} {o : List Nat} {mk : Nat → Nat} {pk : List Nat} (L : LeastOf rows fin o mk pk) : pk.length ≤ rows.length := by
  obtain ⟨cl, co, bf, sub, nd⟩ := L
  have nd' : pk.Nodup := by
    have : ∀ l : List Nat, (l.map mk).Nodup → l.Nodup := by
      intro l
      induction l with
      | nil => intro _; exact List.nodup_nil
      | cons x l ih =>
        intro h
        rw [List.map_cons, List.nodup_cons] at h
        rw [List.nodup_cons]
        exact ⟨fun z => h.1 (List.mem_map_of_mem z), ih h.2⟩
    exact this pk nd
  exact nodup_le pk rows.length nd' fun x hx => cl.2.1 x (sub x hx)
end
end K03
namespace K03
open PySem PySem.Spec PyProof.Rows L2
local macro_rules | `(tactic| walk_at "con") => `(tactic| first | with_reducible refine Gx.conE K03.ks0 ?_ | with_reducible refine Gx.conE K03.ks1 ?_ | with_reducible refine Gx.conE K03.ks2 ?_ | with_reducible refine Gx.conE K03.ks3 ?_ | with_reducible refine Gx.conE K03.ks4 ?_ | with_reducible refine Gx.conE K03.ks5 ?_ | with_reducible refine Gx.conE K03.ks6 ?_ | with_reducible refine Gx.conE K03.ks7 ?_ | with_reducible refine Gx.conE K03.ks8 ?_ | with_reducible refine Gx.conE K03.ks9 ?_ | with_reducible refine Gx.conE K03.ks10 ?_ | with_reducible refine Gx.conE K03.ks11 ?_ | with_reducible refine Gx.conE K03.ks12 ?_ | with_reducible refine Gx.conE K03.ks13 ?_ | with_reducible refine Gx.conE K03.ks14 ?_ | with_reducible refine Gx.conE K03.ks15 ?_)
section
variable {P : Program} {w : World} {K : PySem.W.Frag} {mg : Str → Option Value} {base : Heap}
/-! ### told apart, in plain Lean -/
/-- all states have five moves -/
def Five (rows : List (List Nat)) : Prop := 0 < rows.length ∧ ∀ s, s < rows.length → (rows.getD s []).length = 5 ∧ ∀ t ∈ rows.getD s [], t < rows.length
/-- the move k of s -/
def mv (rows : List (List Nat)) (s k : Nat) : Nat := (rows.getD s []).getD k 0
theorem Five.mv_lt {rows : List (List Nat)} (h : Five rows) {s k : Nat} (hs : s < rows.length) (hk : k < 5) : mv rows s k < rows.length := by
  obtain ⟨l, t⟩ := h.2 s hs
  exact t _ (mem_getD (by omega))
theorem Five.closed {rows : List (List Nat)} (h : Five rows) : Closed rows (List.range rows.length) :=
  ⟨List.nodup_range, fun s hs => List.mem_range.mp hs, by rw [List.getElem?_range h.1], fun s hs t ht => List.mem_range.mpr ((h.2 s (List.mem_range.mp hs)).2 t ht)⟩
theorem uniq : ∀ l : List (List Nat), ∃ ks : List (List Nat), ks.Nodup ∧ ∀ x, x ∈ ks ↔ x ∈ l
  | [] => ⟨[], List.nodup_nil, fun _ => Iff.rfl⟩
  | x :: l => by
    obtain ⟨ks, n, h⟩ := uniq l
    by_cases c : x ∈ l
    · refine ⟨ks, n, fun y => ?_⟩
      rw [h y, List.mem_cons]
      constructor
      · exact .inr
      · rintro (rfl | z)
        · exact c
        · exact z
    · exact ⟨x :: ks, List.nodup_cons.mpr ⟨fun z => c ((h x).mp z), n⟩, fun y => by rw [List.mem_cons, List.mem_cons, h y]⟩
theorem ref_exists (rows : List (List Nat)) (o : List Nat) (mk : Nat → Nat) : ∃ mk' c, Ref rows o mk mk' c := by
  obtain ⟨ks, nd, hm⟩ := uniq (o.map fun s => mk s :: (rows.getD s []).map mk)
  have hin : ∀ s ∈ o, (mk s :: (rows.getD s []).map mk) ∈ ks := fun s hs => (hm _).mpr (List.mem_map.mpr ⟨s, hs, rfl⟩)
  refine ⟨fun s => ks.idxOf (mk s :: (rows.getD s []).map mk), ks.length, fun s hs t ht => ?_, fun s hs => List.idxOf_lt_length_of_mem (hin s hs), fun j hj => ?_⟩
  · constructor
    · intro e
      have h1 := List.getElem_idxOf (List.idxOf_lt_length_of_mem (hin s hs))
      have h2 := List.getElem_idxOf (List.idxOf_lt_length_of_mem (hin t ht))
      have : (mk s :: (rows.getD s []).map mk) = (mk t :: (rows.getD t []).map mk) := by
        rw [← h1, ← h2]
        congr 1
      exact List.cons.inj this
    · rintro ⟨e1, e2⟩
      show ks.idxOf _ = ks.idxOf _
      rw [e1, e2]
  · obtain ⟨s, hs, e⟩ := List.mem_map.mp ((hm _).mp (List.getElem_mem hj))
    refine ⟨s, hs, ?_⟩
    show ks.idxOf _ = j
    rw [e]
    exact nd.idxOf_getElem j hj
section
variable {rows : List (List Nat)} {fin : List Bool}
/-- no pair that is told apart is in a bisimulation -/
def Fair (rows : List (List Nat)) (fin : List Bool) (A : Nat → Nat → Bool) : Prop := ∀ R, Bis rows fin R → ∀ p, p < rows.length → ∀ q, q < rows.length → R p q → A p q = false
/-- exactly the unlike states are told apart -/
def Told (rows : List (List Nat)) (fin : List Bool) (A : Nat → Nat → Bool) : Prop :=
  Fair rows fin A ∧ ∀ p, p < rows.length → ∀ q, q < rows.length → A p q = false → fin.getD p false = fin.getD q false ∧ ∀ k, k < 5 → A (mv rows p k) (mv rows q k) = false
def Round (rows : List (List Nat)) (fin : List Bool) (i : Nat) (A : Nat → Nat → Bool) : Prop :=
  Fair rows fin A ∧ (∀ p, p < rows.length → ∀ q, q < rows.length → A p q = false → fin.getD p false = fin.getD q false) ∧
  ((∃ mk, Coarse rows fin (List.range rows.length) mk ∧ ∀ p, p < rows.length → ∀ q, q < rows.length → mk p ≠ mk q → A p q = true) ∨ ∃ mk c, Marks rows fin (List.range rows.length) i mk c ∧ ∀ p, p < rows.length → ∀ q, q < rows.length → mk p ≠ mk q → A p q = true)
theorem bis_flip {R : Nat → Nat → Prop} (h : Bis rows fin R) : Bis rows fin (fun a b => R b a) := fun s t r => ⟨(h t s r).1.symm, (h t s r).2.1.symm, fun k hk => (h t s r).2.2 k (by rw [(h t s r).2.1]; exact hk)⟩
theorem Fair.put (five : Five rows) {A B : Nat → Nat → Bool} {p q k : Nat} (hp : p < rows.length) (hq : q < rows.length) (hk : k < 5) (h : Fair rows fin A) (e : A (mv rows p k) (mv rows q k) = true) (hB : ∀ x y, B x y = true → A x y = true ∨ (x = p ∧ y = q) ∨ (x = q ∧ y = p)) : Fair rows fin B := by
  have key : ∀ R, Bis rows fin R → ¬ R p q := fun R hR r => by
    obtain ⟨_, l, m⟩ := hR p q r
    have := h R hR _ (five.mv_lt hp hk) _ (five.mv_lt hq hk) (m k (by rw [(five.2 p hp).1]; exact hk))
    rw [e] at this
    cases this
  intro R hR x hx y hy r
  cases hb : B x y with
  | false => rfl
  | true =>
    rcases hB x y hb with z | ⟨rfl, rfl⟩ | ⟨rfl, rfl⟩
    · rw [h R hR x hx y hy r] at z
      cases z
    · exact absurd r (key R hR)
    · exact absurd r (key _ (bis_flip hR))
theorem Fair.init {A : Nat → Nat → Bool} (h : ∀ p, p < rows.length → ∀ q, q < rows.length → A p q = (fin.getD p false != fin.getD q false)) : Fair rows fin A := fun R hR p hp q hq r => by
  rw [h p hp q hq, (hR p q r).1]
  simp
theorem Round.init {A : Nat → Nat → Bool} (h : ∀ p, p < rows.length → ∀ q, q < rows.length → A p q = (fin.getD p false != fin.getD q false)) : Round rows fin 0 A := by
  have hm : ∀ p q, (if fin.getD p false then 1 else 0 : Nat) = (if fin.getD q false then 1 else 0) → fin.getD p false = fin.getD q false := fun p q e => by
    revert e
    cases fin.getD p false <;> cases fin.getD q false <;> simp
  refine ⟨Fair.init h, fun p hp q hq e => ?_, .inr ⟨fun s => if fin.getD s false then 1 else 0, 0, ⟨fun s _ t _ e => hm s t e, fun R hR s _ t _ r => ?_, .inl ⟨rfl, rfl⟩, Nat.le_refl _⟩, fun p hp q hq ne => ?_⟩⟩
  · rw [h p hp q hq] at e
    simpa using e
  · show (if fin.getD s false then 1 else 0 : Nat) = _
    rw [(hR s t r).1]
  · rw [h p hp q hq]
    cases hb : (fin.getD p false != fin.getD q false) with
    | true => rfl
    | false =>
      refine absurd ?_ ne
      have : fin.getD p false = fin.getD q false := by simpa using hb
      show (if fin.getD p false then 1 else 0 : Nat) = _
      rw [this]
theorem map_ne {l l' : List Nat} {mk : Nat → Nat} (e : l.length = l'.length) (h : ∀ k, k < l.length → mk (l.getD k 0) = mk (l'.getD k 0)) : l.map mk = l'.map mk := map_of_rel (R := fun a b => mk a = mk b) e h fun _ _ _ _ z => z
theorem Round.go (five : Five rows) {i : Nat} {A B : Nat → Nat → Bool} (h : Round rows fin i A) (fair : Fair rows fin B) (up : ∀ p, p < rows.length → ∀ q, q < rows.length → B p q = false → A p q = false)
    (hit : ∀ p, p < rows.length → ∀ q, q < rows.length → ∀ k, k < 5 → B p q = false → A (mv rows p k) (mv rows q k) = false) : Round rows fin (i + 1) B := by
  obtain ⟨fa, init, h⟩ := h
  have up' : ∀ p, p < rows.length → ∀ q, q < rows.length → A p q = true → B p q = true := fun p hp q hq e => by
    cases hb : B p q with
    | true => rfl
    | false => rw [up p hp q hq hb] at e; cases e
  refine ⟨fair, fun p hp q hq e => init p hp q hq (up p hp q hq e), ?_⟩
  rcases h with ⟨mk, c, m⟩ | ⟨mk, c, mm, m⟩
  · exact .inl ⟨mk, c, fun p hp q hq ne => up' p hp q hq (m p hp q hq ne)⟩
  · obtain ⟨mk', c', r⟩ := ref_exists rows (List.range rows.length) mk
    by_cases ec : c' = c
    · subst ec
      exact .inl ⟨mk, mm.stop five.closed r, fun p hp q hq ne => up' p hp q hq (m p hp q hq ne)⟩
    · refine .inr ⟨mk', c', mm.go five.closed r ec, fun p hp q hq ne => ?_⟩
      cases hb : B p q with
      | true => rfl
      | false =>
        refine absurd ((r.1 p (List.mem_range.mpr hp) q (List.mem_range.mpr hq)).mpr ⟨?_, ?_⟩) ne
        · by_cases e : mk p = mk q
          · exact e
          · have := m p hp q hq e
            rw [up p hp q hq hb] at this
            cases this
        · refine map_ne (by rw [(five.2 p hp).1, (five.2 q hq).1]) fun k hk => ?_
          rw [(five.2 p hp).1] at hk
          by_cases e : mk (mv rows p k) = mk (mv rows q k)
          · exact e
          · have := m _ (five.mv_lt hp hk) _ (five.mv_lt hq hk) e
            rw [hit p hp q hq k hk hb] at this
            cases this
theorem Round.stop {i : Nat} {A : Nat → Nat → Bool} (h : Round rows fin i A) (st : ∀ p, p < rows.length → ∀ q, q < rows.length → A p q = false → ∀ k, k < 5 → A (mv rows p k) (mv rows q k) = false) : Told rows fin A :=
  ⟨h.1, fun p hp q hq e => ⟨h.2.1 p hp q hq e, st p hp q hq e⟩⟩
theorem Round.full (five : Five rows) {A : Nat → Nat → Bool} (h : Round rows fin rows.length A) : Told rows fin A := by
  obtain ⟨fa, init, h⟩ := h
  have hc : ∃ mk, Coarse rows fin (List.range rows.length) mk ∧ ∀ p, p < rows.length → ∀ q, q < rows.length → mk p ≠ mk q → A p q = true := by
    rcases h with h | ⟨mk, c, mm, m⟩
    · exact h
    · refine ⟨mk, ?_, m⟩
      obtain ⟨m1, m2, m3, m4⟩ := mm
      rcases m3 with ⟨z, _⟩ | ⟨_, on⟩
      · exact absurd z (by have := five.1; omega)
      · have le := onto_le on
        rw [List.length_range] at le
        have inj : ∀ s ∈ List.range rows.length, ∀ t ∈ List.range rows.length, mk s = mk t → s = t := fun s hs t ht e =>
          (onto_mono (mk' := fun x => x) (c' := rows.length) on ⟨fun s hs => List.mem_range.mp hs, fun j hj => ⟨j, List.mem_range.mpr hj, rfl⟩⟩ fun s _ t _ e => by rw [show s = t from e]).2 (by omega) s hs t ht e
        exact ⟨fun s hs t ht e => by rw [inj s hs t ht e]; exact ⟨rfl, rfl⟩, m2⟩
  obtain ⟨mk, co, m⟩ := hc
  have hB : Bis rows fin (fun a b => a < rows.length ∧ b < rows.length ∧ mk a = mk b) := by
    rintro s t ⟨hs, ht, e⟩
    obtain ⟨c1, c2⟩ := co.1 s (List.mem_range.mpr hs) t (List.mem_range.mpr ht) e
    have l1 := (five.2 s hs).1
    have l2 := (five.2 t ht).1
    refine ⟨c1, by rw [l1, l2], fun k hk => ⟨five.mv_lt hs (by omega), five.mv_lt ht (by omega), ?_⟩⟩
    rw [← getD_map_lt (f := mk) hk, c2, getD_map_lt (by omega)]
  have hA : ∀ p, p < rows.length → ∀ q, q < rows.length → A p q = false → mk p = mk q := fun p hp q hq e => by
    by_cases z : mk p = mk q
    · exact z
    · have := m p hp q hq z
      rw [e] at this
      cases this
  refine ⟨fa, fun p hp q hq e => ⟨init p hp q hq e, fun k hk => ?_⟩⟩
  obtain ⟨_, l, mm⟩ := hB p q ⟨hp, hq, hA p hp q hq e⟩
  exact fa _ hB _ (five.mv_lt hp hk) _ (five.mv_lt hq hk) (mm k (by rw [(five.2 p hp).1]; exact hk))
/-! the relation not told apart -/
theorem Told.bis (five : Five rows) {A : Nat → Nat → Bool} (h : Told rows fin A) : Bis rows fin (fun a b => a < rows.length ∧ b < rows.length ∧ A a b = false) := by
  rintro s t ⟨hs, ht, e⟩
  obtain ⟨c1, c2⟩ := h.2 s hs t ht e
  have l1 := (five.2 s hs).1
  have l2 := (five.2 t ht).1
  exact ⟨c1, by rw [l1, l2], fun k hk => ⟨five.mv_lt hs (by omega), five.mv_lt ht (by omega), c2 k (by omega)⟩⟩
theorem Told.refl {A : Nat → Nat → Bool} (h : Told rows fin A) {p : Nat} (hp : p < rows.length) : A p p = false :=
  h.1 (fun a b => a = b) (fun s t e => by cases e; exact ⟨rfl, rfl, fun _ _ => rfl⟩) p hp p hp rfl
theorem Told.symm (five : Five rows) {A : Nat → Nat → Bool} (h : Told rows fin A) {p q : Nat} (hp : p < rows.length) (hq : q < rows.length) (e : A p q = false) : A q p = false := h.1 _ (bis_flip (h.bis five)) q hq p hp ⟨hp, hq, e⟩
theorem Told.trans (five : Five rows) {A : Nat → Nat → Bool} (h : Told rows fin A) {p q r : Nat} (hp : p < rows.length) (hq : q < rows.length) (hr : r < rows.length) (e : A p q = false) (f : A q r = false) : A p r = false := by
  refine h.1 (fun a c => ∃ b, (a < rows.length ∧ b < rows.length ∧ A a b = false) ∧ (b < rows.length ∧ c < rows.length ∧ A b c = false)) ?_ p hp r hr ⟨q, ⟨hp, hq, e⟩, hq, hr, f⟩
  rintro s t ⟨b, h1, h2⟩
  obtain ⟨a1, a2, a3⟩ := h.bis five s b h1
  obtain ⟨b1, b2, b3⟩ := h.bis five b t h2
  exact ⟨a1.trans b1, a2.trans b2, fun k hk => ⟨_, a3 k hk, b3 k (by omega)⟩⟩
/-- the first state that is not told apart -/
def hd (n : Nat) (A : Nat → Nat → Bool) (p : Nat) : Nat := ((List.range n).filter fun q => !A p q).headD 0
theorem Told.hd_at {A : Nat → Nat → Bool} (h : Told rows fin A) {p : Nat} (hp : p < rows.length) : ((List.range rows.length).filter fun q => !A p q)[0]? = some (hd rows.length A p) ∧ hd rows.length A p < rows.length ∧ A p (hd rows.length A p) = false := by
  have hm : p ∈ (List.range rows.length).filter fun q => !A p q := List.mem_filter.mpr ⟨List.mem_range.mpr hp, by rw [h.refl hp]; rfl⟩
  have key : ∀ x, x ∈ ((List.range rows.length).filter fun q => !A p q) → x < rows.length ∧ A p x = false := fun x hx => by
    obtain ⟨h1, h2⟩ := List.mem_filter.mp hx
    exact ⟨List.mem_range.mp h1, by simpa using h2⟩
  unfold hd
  revert hm key
  generalize ((List.range rows.length).filter fun q => !A p q) = l
  intro hm key
  cases l with
  | nil => cases hm
  | cons x l => exact ⟨rfl, key x List.mem_cons_self⟩
theorem Told.hd_eq (five : Five rows) {A : Nat → Nat → Bool} (h : Told rows fin A) {p q : Nat} (hp : p < rows.length) (hq : q < rows.length) : hd rows.length A p = hd rows.length A q ↔ A p q = false := by
  obtain ⟨_, l1, e1⟩ := h.hd_at hp
  obtain ⟨_, l2, e2⟩ := h.hd_at hq
  constructor
  · intro e
    exact h.trans five hp l1 hq e1 (by rw [e]; exact h.symm five hq l2 e2)
  · intro e
    unfold hd
    have : ((List.range rows.length).filter fun x => !A p x) = (List.range rows.length).filter fun x => !A q x := by
      refine List.filter_congr fun x hx => ?_
      have hx := List.mem_range.mp hx
      cases c : A p x with
      | false => rw [h.trans five hq hp hx (h.symm five hp hq e) c]
      | true =>
        cases d : A q x with
        | true => rfl
        | false => rw [h.trans five hp hq hx e d] at c; cases c
    rw [this]
theorem Told.hd_hd (five : Five rows) {A : Nat → Nat → Bool} (h : Told rows fin A) {p : Nat} (hp : p < rows.length) : hd rows.length A (hd rows.length A p) = hd rows.length A p := by
  obtain ⟨_, l1, e1⟩ := h.hd_at hp
  exact (h.hd_eq five l1 hp).mpr (h.symm five hp l1 e1)
theorem Told.hd_0 {A : Nat → Nat → Bool} (five : Five rows) (h : Told rows fin A) : hd rows.length A 0 = 0 := by
  have h0 := h.refl five.1
  unfold hd
  obtain ⟨n, e⟩ : ∃ n, rows.length = n + 1 := ⟨rows.length - 1, by have := five.1; omega⟩
  rw [e, List.range_succ_eq_map, List.filter_cons, h0]
  rfl
/-- the moves led to the heads -/
def joinR (rows : List (List Nat)) (A : Nat → Nat → Bool) : List (List Nat) := rows.map fun row => row.map (hd rows.length A)
theorem joinR_get {A : Nat → Nat → Bool} {s : Nat} (hs : s < rows.length) : (joinR rows A).getD s [] = (rows.getD s []).map (hd rows.length A) := by
  unfold joinR
  rw [List.getD_eq_getElem?_getD, List.getD_eq_getElem?_getD, List.getElem?_map, List.getElem?_eq_getElem hs]
  rfl
theorem joinR_len {A : Nat → Nat → Bool} : (joinR rows A).length = rows.length := by unfold joinR; rw [List.length_map]
theorem Told.sim (five : Five rows) {A : Nat → Nat → Bool} (h : Told rows fin A) : Sim rows fin (joinR rows A) fin (fun p q => p < rows.length ∧ q = hd rows.length A p) := by
  rintro p _ ⟨hp, rfl⟩
  obtain ⟨_, l1, e1⟩ := h.hd_at hp
  obtain ⟨f1, m1⟩ := h.2 p hp _ l1 e1
  refine ⟨f1, ?_⟩
  rw [joinR_get l1]
  have n1 := (five.2 p hp).1
  have n2 := (five.2 _ l1).1
  refine Rl.of (by rw [List.length_map, n1, n2]) fun k hk => ⟨five.mv_lt hp (by omega), ?_⟩
  rw [getD_map_lt (by omega)]
  exact ((h.hd_eq five (five.mv_lt hp (by omega)) (five.mv_lt l1 (by omega))).mpr (m1 k (by omega))).symm
/-- the way through the joined moves gives the least machine -/
theorem Told.least (five : Five rows) {A : Nat → Nat → Bool} (h : Told rows fin A) {o : List Nat} (bf : Bfs (joinR rows A) (fun x => x) 0 o.length o) (fx : ∀ s ∈ o, s < rows.length ∧ hd rows.length A s = s) (nd : o.Nodup) (h0 : o[0]? = some 0) (cl : ∀ s ∈ o, ∀ t ∈ (joinR rows A).getD s [], t ∈ o) :
    LeastOf (joinR rows A) fin o (fun x => x) o := by
  refine ⟨⟨nd, fun s hs => by rw [joinR_len]; exact (fx s hs).1, h0, cl⟩, ⟨fun s _ t _ e => by rw [show s = t from e]; exact ⟨rfl, rfl⟩, fun R hR s hs t ht r => ?_⟩, bf, fun s hs => hs, by rw [List.map_id']; exact nd⟩
  obtain ⟨ls, es⟩ := fx s hs
  obtain ⟨lt, et⟩ := fx t ht
  show s = t
  rw [← es, ← et]
  refine (h.hd_eq five ls lt).mpr (h.1 (fun p q => p < rows.length ∧ q < rows.length ∧ R (hd rows.length A p) (hd rows.length A q)) ?_ s ls t lt ⟨ls, lt, by rw [es, et]; exact r⟩)
  rintro p q ⟨hp, hq, z⟩
  obtain ⟨_, l1, e1⟩ := h.hd_at hp
  obtain ⟨_, l2, e2⟩ := h.hd_at hq
  obtain ⟨f1, m1⟩ := h.2 p hp _ l1 e1
  obtain ⟨f2, m2⟩ := h.2 q hq _ l2 e2
  obtain ⟨z1, z2, z3⟩ := hR _ _ z
  have n1 := (five.2 p hp).1
  have n2 := (five.2 q hq).1
  have n3 := (five.2 _ l1).1
  have n4 := (five.2 _ l2).1
  refine ⟨by rw [f1, f2, z1], by rw [n1, n2], fun k hk => ⟨five.mv_lt hp (by omega), five.mv_lt hq (by omega), ?_⟩⟩
  have := z3 k (by rw [joinR_get l1, List.length_map, n3]; omega)
  rw [joinR_get l1, joinR_get l2, getD_map_lt (by omega), getD_map_lt (by omega)] at this
  show R (hd rows.length A (mv rows p k)) (hd rows.length A (mv rows q k))
  rw [(h.hd_eq five (five.mv_lt hp (by omega)) (five.mv_lt l1 (by omega))).mpr (m1 k (by omega)), (h.hd_eq five (five.mv_lt hq (by omega)) (five.mv_lt l2 (by omega))).mpr (m2 k (by omega))]
  exact this
end
def mfl (x y : V) : List (Str × V) := [(Str.ofString "rows", x), (Str.ofString "finals", y)]
/-- at p stands a Machine of the class C with these rows and finals -/
def MachAt (K : PySem.W.Frag) (C : Addr) (H : Hp) (p : Addr) (R : List (List Nat)) (F : List Bool) : Prop := ∃ dx x y, H p = some (.ins C dx (mfl x y)) ∧ Dp K H x (rowsD R) ∧ Dp K H y (finsD F)
theorem MachAt.same {C : Addr} {H H' : Hp} {p : Addr} {R : List (List Nat)} {F : List Bool} (h : MachAt K C H p R F) (e : Same H H') : MachAt K C H' p R F :=
  let ⟨dx, x, y, a, b, c⟩ := h
  ⟨dx, x, y, e _ _ a, Gx.dp_same e _ _ b, Gx.dp_same e _ _ c⟩
theorem rowsD_at {H : Hp} {x : V} {R : List (List Nat)} (h : Dp K H x (rowsD R)) : ∃ r xs, x = .ref r ∧ SqT K H r xs ∧ DpAll K H xs (R.map rowD) := by
  unfold rowsD at h
  cases h with
  | tup a b => exact ⟨_, _, rfl, a, b⟩
theorem rowD_at {H : Hp} {x : V} {R : List Nat} (h : Dp K H x (rowD R)) : ∃ r, x = .ref r ∧ SqT K H r (R.map fun n => V.int (n : Nat)) := by
  unfold rowD at h
  cases h with
  | tup a b =>
    refine ⟨_, rfl, ?_⟩
    have e : ∀ {l : List Nat} {xs : List V}, DpAll K H xs (l.map fun n => PyData.int (n : Nat)) → xs = l.map fun n => V.int (n : Nat) := by
      intro l
      induction l with
      | nil => intro xs h; cases h; rfl
      | cons x l ih =>
        intro xs h
        cases h with
        | cons a t =>
          cases a
          rw [List.map_cons, ih t]
    rw [← e b]
    exact a
theorem finsD_at {H : Hp} {x : V} {F : List Bool} (h : Dp K H x (finsD F)) : ∃ r, x = .ref r ∧ SqT K H r (F.map V.bl) := by
  unfold finsD at h
  cases h with
  | tup a b =>
    refine ⟨_, rfl, ?_⟩
    have e : ∀ {l : List Bool} {xs : List V}, DpAll K H xs (l.map PyData.bool) → xs = l.map V.bl := by
      intro l
      induction l with
      | nil => intro xs h; cases h; rfl
      | cons x l ih =>
        intro xs h
        cases h with
        | cons a t =>
          cases a
          rw [List.map_cons, ih t]
    rw [← e b]
    exact a
theorem rows_get {H : Hp} {xs : List V} : ∀ {R : List (List Nat)} {i : Nat} {row : List Nat}, DpAll K H xs (R.map rowD) → R[i]? = some row → ∃ r, xs[i]? = some (.ref r) ∧ SqT K H r (row.map fun n => V.int (n : Nat)) := by
  induction xs with
  | nil =>
    intro R i row h e
    cases R with
    | nil => cases e
    | cons _ _ => cases h
  | cons x xs ih =>
    intro R i row h e
    cases R with
    | nil => cases e
    | cons r0 R =>
      cases h with
      | cons a t =>
        cases i with
        | zero =>
          cases e
          obtain ⟨r, rfl, hr⟩ := rowD_at a
          exact ⟨r, rfl, hr⟩
        | succ i => exact ih t (by simpa using e)
/-- the rows of a machine, as rows handed to another one -/
theorem rowsAt_of {H : Hp} {r : Addr} {R : List (List Nat)} (h : Dp K H (.ref r) (rowsD R)) : RowsAt K H r R := by
  obtain ⟨r', xs, e, hx, hd⟩ := rowsD_at h
  cases e
  refine ⟨xs, .inr hx, by rw [Gx.dpAll_len hd, List.length_map], fun i row hi => ?_⟩
  obtain ⟨r, h1, h2⟩ := rows_get hd hi
  exact ⟨r, h1, .inr h2⟩
theorem noL_fins (l : List Bool) : Gx.noLs (l.map PyData.bool) = true := by
  induction l with
  | nil => rfl
  | cons x l ih => rw [List.map_cons, Gx.noLs, ih]; rfl
def sp_minit (K : PySem.W.Frag) (C : Addr) : Sp := fun vs H Q _ => ∃ (p dx a f : Addr) (rows : List (List Nat)) (fin : List Bool), vs = [.ref p, .ref a, .ref f] ∧ H p = some (.ins C dx []) ∧ RowsAt K H a rows ∧ RowsOk rows ∧ Gx.Sq K H f (fin.map V.bl) ∧ fin.length = rows.length ∧
  (∀ o mk pk, LeastOf rows fin o mk pk → pk.length ≤ 100) ∧ ∀ H' x y o mk pk, LeastOf rows fin o mk pk → H' p = some (.ins C dx (mfl x y)) → Dp K H' x (rowsD (lRows rows mk pk)) → Dp K H' y (finsD (lFins fin pk)) → (∀ b u, b ≠ p → H b = some u → H' b = some u) → Q .non H'
theorem G_Machine_init (T : Txt K mg w) : FnOk P w K mg base CX0 4 T.f_Machine_init T.fd_Machine_init ["self", "rows", "finals"] (sp_minit K T.a_Machine) := by
  have G_least := G_least (P := P) (w := w) (base := base) T
  refine T.F_Machine_init.ok sc_Machine_init (fun vs H Q E h => ?_) (fun cdv A outer s H vs Q E hr h => ?_)
  · obtain ⟨p, dx, a, f, rows, fin, rfl, _⟩ := h
    rfl
  · obtain ⟨p, dx, a, f, rows, fin, rfl, hp, hR, ok, hF, hfl, h100, q⟩ := h
    refine ⟨_, ((pss_cons (ps_set (i := 3) sc_Machine_init.nd rfl (Or.inl rfl) (pe_call G_least (hr.mono (by first | decide | omega)) (by rfl) T.g_least T.F_least.kp T.b_least .nil pass0 (pa_cons (pv 1) (pa_cons (pv 2) pa_nil))))
  (pss_cons (ps_if (pt_cmpR op_gt (pe_callB Gx.cr_lenQ (by rfl) T.z_len bt_len (pa_cons (pe_ix ix_tup (pv 3) pe_int (fun _ _ => rfl)) pa_nil)) (pe_glob (v := .int 100) rfl T.g_MOST_STATES ⟨_, rfl⟩) (nomark _))
  (pss_one Gx.ps_no)
  pss_nil)
  (pss_cons (ps_fld (pv 0) (pe_ix ix_tup (pv 3) pe_int (fun _ _ => rfl)) rfl)
  (pss_one (ps_fld (pv 0) (pe_ix ix_tup (pv 3) pe_int (fun _ _ => rfl)) rfl)))))), ?_⟩
    rw [st_Machine_init]
    try dsimp only [cxOf]
    walk_at "g"
    refine ⟨a, f, rows, fin, rfl, hR, ok, hF, hfl, fun H1 u x y o mk pk s1 e1 lo dx1 dy1 => ?_⟩
    have ht1 := SqT.of (K := K) e1
    walk_at "g"
    obtain ⟨r1, xs, rfl, hx, hdx⟩ := rowsD_at dx1
    have hxl := Gx.dpAll_len hdx
    have h100' := h100 o mk pk lo
    have hxl' : xs.length = pk.length := by rw [hxl]; unfold lRows; simp
    refine Gx.lenQ (.inr hx) ?_
    walk_at "g"
    refine Gx.iteD (fun c => absurd c (by omega)) (fun c => ?_)
    walk_at "g"
    refine ⟨p, T.a_Machine, dx, _, rfl, s1 _ _ hp, T.c_Machine, T.n_Machine_rows, by decide, ?_⟩
    have hne : u ≠ p := fun e => by
      rw [e, s1 _ _ hp] at e1
      cases e1
    have t1 := tups_upd (K := K) (v := .ins T.a_Machine dx (putF "rows" (V.ref r1) [])) (s1 _ _ hp) (by intro _ z; cases z) (by intro _ _ z; cases z)
    have e2 : (upd H1 p (.ins T.a_Machine dx (putF "rows" (V.ref r1) []))) p = some (.ins T.a_Machine dx (putF "rows" (V.ref r1) [])) := upd_same
    have k2 : ∀ b v, b ≠ p → H1 b = some v → (upd H1 p (.ins T.a_Machine dx (putF "rows" (V.ref r1) []))) b = some v := fun b v hb e => by rw [upd_ne hb]; exact e
    generalize upd H1 p (.ins T.a_Machine dx (putF "rows" (V.ref r1) [])) = H2 at t1 e2 k2 ⊢
    have ht2 := SqT.of (K := K) (k2 _ _ hne e1)
    walk_at "g"
    refine ⟨p, T.a_Machine, dx, _, rfl, e2, T.c_Machine, T.n_Machine_finals, by show 1 < 1000; decide, ?_⟩
    have t2 := tups_upd (K := K) (v := .ins T.a_Machine dx (putF "finals" y (putF "rows" (V.ref r1) []))) e2 (by intro _ z; cases z) (by intro _ _ z; cases z)
    walk_at "g"
    refine q _ (.ref r1) y o mk pk lo upd_same ?_ ?_ fun b v hb e => by rw [upd_ne hb]; exact k2 b v hb (s1 _ _ e)
    · exact Gx.dp_tups (fun a xs z => t2 a xs (t1 a xs z)) _ _ (noLs_rows _) dx1
    · exact Gx.dp_tups (fun a xs z => t2 a xs (t1 a xs z)) _ _ (noL_fins _) dy1
end
end K03
namespace K03
open PySem PySem.Spec PyProof.Rows L2
local macro_rules | `(tactic| walk_at "con") => `(tactic| first | with_reducible refine Gx.conE K03.ks0 ?_ | with_reducible refine Gx.conE K03.ks1 ?_ | with_reducible refine Gx.conE K03.ks2 ?_ | with_reducible refine Gx.conE K03.ks3 ?_ | with_reducible refine Gx.conE K03.ks4 ?_ | with_reducible refine Gx.conE K03.ks5 ?_ | with_reducible refine Gx.conE K03.ks6 ?_ | with_reducible refine Gx.conE K03.ks7 ?_ | with_reducible refine Gx.conE K03.ks8 ?_ | with_reducible refine Gx.conE K03.ks9 ?_ | with_reducible refine Gx.conE K03.ks10 ?_ | with_reducible refine Gx.conE K03.ks11 ?_ | with_reducible refine Gx.conE K03.ks12 ?_ | with_reducible refine Gx.conE K03.ks13 ?_ | with_reducible refine Gx.conE K03.ks14 ?_ | with_reducible refine Gx.conE K03.ks15 ?_)
section
variable {P : Program} {w : World} {K : PySem.W.Frag} {mg : Str → Option Value} {base : Heap}
theorem lk_rows (x y : V) : (mfl x y).lookup (Str.ofString "rows") = some x := rfl
theorem lk_finals (x y : V) : (mfl x y).lookup (Str.ofString "finals") = some y := rfl
/-- the machine of an automaton is made -/
theorem mk_mach {C : Addr} {H : Hp} {a f : Addr} {rows : List (List Nat)} {fin : List Bool} {Q : Addr → Hp → Prop} {E : XK} (hR : RowsAt K H a rows) (ok : RowsOk rows) (hF : Gx.Sq K H f (fin.map V.bl)) (hfl : fin.length = rows.length) (h100 : ∀ o mk pk, LeastOf rows fin o mk pk → pk.length ≤ 100)
    (q : ∀ H' p o mk pk, Same H H' → LeastOf rows fin o mk pk → MachAt K C H' p (lRows rows mk pk) (lFins fin pk) → Q p H') :
    ∀ x dx, H x = none → H dx = none → dx ≠ x → sp_minit K C (.ref x :: [.ref a, .ref f]) (upd (upd H dx (.own x)) x (.ins C dx [])) (fun v H2 => v = .non ∧ Q x H2) E := by
  intro x dx nx nd ne
  have s1 : Same H (upd (upd H dx (.own x)) x (.ins C dx [])) := Gx.Same.put (Gx.Same.put (Same.refl H) nd) nx
  refine ⟨x, dx, a, f, rows, fin, rfl, upd_same, hR.same s1, ok, hF.same s1, hfl, h100, fun H' vx vy o mk pk lo e1 d1 d2 k => ⟨rfl, q H' x o mk pk (fun b u e => k b u (ne_of_none e nx) (s1 b u e)) lo ⟨dx, vx, vy, e1, d1, d2⟩⟩⟩
theorem eqv_ints : ∀ l l' : List Nat, PyData.eqvAll (l.map fun n => PyData.int (n : Nat)) (l'.map fun n => PyData.int (n : Nat)) = decide (l = l')
  | [], [] => by simp [PyData.eqvAll]
  | [], _ :: _ => by simp [PyData.eqvAll]
  | _ :: _, [] => by simp [PyData.eqvAll]
  | x :: l, y :: l' => by
    rw [List.map_cons, List.map_cons, PyData.eqvAll, PyData.eqv, eqv_ints l l']
    by_cases e : x = y
    · subst e
      simp
    · have : ((x : Int) == (y : Int)) = false := by simp; omega
      rw [this]
      simp [e]
theorem eqv_rowD (l l' : List Nat) : PyData.eqv (rowD l) (rowD l') = decide (l = l') := by
  unfold rowD
  rw [PyData.eqv]
  exact eqv_ints l l'
theorem eqv_rows : ∀ l l' : List (List Nat), PyData.eqvAll (l.map rowD) (l'.map rowD) = decide (l = l')
  | [], [] => by simp [PyData.eqvAll]
  | [], _ :: _ => by simp [PyData.eqvAll]
  | _ :: _, [] => by simp [PyData.eqvAll]
  | x :: l, y :: l' => by
    rw [List.map_cons, List.map_cons, PyData.eqvAll, eqv_rowD, eqv_rows l l']
    by_cases e : x = y
    · subst e
      simp
    · simp [e]
theorem eqv_rowsD (l l' : List (List Nat)) : PyData.eqv (rowsD l) (rowsD l') = decide (l = l') := by
  unfold rowsD
  rw [PyData.eqv]
  exact eqv_rows l l'
theorem eqv_fins : ∀ l l' : List Bool, PyData.eqvAll (l.map PyData.bool) (l'.map PyData.bool) = decide (l = l')
  | [], [] => by simp [PyData.eqvAll]
  | [], _ :: _ => by simp [PyData.eqvAll]
  | _ :: _, [] => by simp [PyData.eqvAll]
  | x :: l, y :: l' => by
    rw [List.map_cons, List.map_cons, PyData.eqvAll, PyData.eqv, eqv_fins l l']
    by_cases e : x = y
    · subst e
      simp
    · have : (x == y) = false := by simpa using e
      rw [this]
      simp [e]
theorem eqv_finsD (l l' : List Bool) : PyData.eqv (finsD l) (finsD l') = decide (l = l') := by
  unfold finsD
  rw [PyData.eqv]
  exact eqv_fins l l'
theorem can_ints : ∀ l : List Nat, PyData.canLayAll0 (l.map fun n => PyData.int (n : Nat)) = true
  | [] => rfl
  | x :: l => by rw [List.map_cons, PyData.canLayAll0, can_ints l, PyData.canLay0]; rfl
theorem can_rows : ∀ l : List (List Nat), PyData.canLayAll0 (l.map rowD) = true
  | [] => rfl
  | x :: l => by rw [List.map_cons, PyData.canLayAll0, can_rows l, rowD, PyData.canLay0, can_ints]; rfl
theorem can_fins : ∀ l : List Bool, PyData.canLayAll0 (l.map PyData.bool) = true
  | [] => rfl
  | x :: l => by rw [List.map_cons, PyData.canLayAll0, can_fins l, PyData.canLay0]; rfl
theorem dep_ints : ∀ l : List Nat, PyData.depthAll (l.map fun n => PyData.int (n : Nat)) = 0
  | [] => by simp [PyData.depthAll]
  | x :: l => by rw [List.map_cons, PyData.depthAll, dep_ints l, PyData.depth]; rfl
theorem dep_rows : ∀ l : List (List Nat), PyData.depthAll (l.map rowD) ≤ 1
  | [] => by simp [PyData.depthAll]
  | x :: l => by
    have := dep_rows l
    have h2 := dep_ints x
    simp only [List.map_cons, PyData.depthAll, rowD, PyData.depth] at *
    omega
theorem dep_fins : ∀ l : List Bool, PyData.depthAll (l.map PyData.bool) = 0
  | [] => by simp [PyData.depthAll]
  | x :: l => by rw [List.map_cons, PyData.depthAll, dep_fins l, PyData.depth]; rfl
theorem shaped_rowsD (l : List (List Nat)) : SeqAt.shaped (rowsD l) = true := by
  unfold SeqAt.shaped rowsD
  rw [PyData.canLay0, can_rows, Bool.true_and]
  have := dep_rows l
  refine decide_eq_true ?_
  simp only [PyData.depth]
  omega
theorem shaped_finsD (l : List Bool) : SeqAt.shaped (finsD l) = true := by
  unfold SeqAt.shaped finsD
  rw [PyData.canLay0, can_fins, Bool.true_and]
  have := dep_fins l
  refine decide_eq_true ?_
  simp only [PyData.depth]
  omega
def sp_mstates (K : PySem.W.Frag) (C : Addr) : Sp := fun vs H Q _ => ∃ p R F, vs = [.ref p] ∧ MachAt K C H p R F ∧ Q (.int R.length) H
theorem G_Machine_states (T : Txt K mg w) : FnOk P w K mg base CX0 1 T.f_Machine_states T.fd_Machine_states ["self"] (sp_mstates K T.a_Machine) := by
  refine T.F_Machine_states.ok sc_Machine_states (fun vs H Q E h => ?_) (fun cdv A outer s H vs Q E hr h => ?_)
  · obtain ⟨p, R, F, rfl, _⟩ := h
    rfl
  · obtain ⟨p, R, F, rfl, ⟨dx, x, y, hp, d1, d2⟩, q⟩ := h
    refine ⟨_, ((pss_one (ps_ret (pe_callB Gx.cr_lenQ (by rfl) T.z_len bt_len (pa_cons (pe_fld (pv 0) rfl) pa_nil))))), ?_⟩
    rw [st_Machine_states]
    try dsimp only [cxOf]
    walk_at "g"
    refine ⟨p, T.a_Machine, dx, _, _, rfl, hp, T.c_Machine, T.n_Machine_rows, lk_rows _ _, ?_⟩
    obtain ⟨r, xs, rfl, hx, hd⟩ := rowsD_at d1
    walk_at "g"
    rw [Gx.dpAll_len hd, List.length_map]
    exact q
/-- the place of a sign -/
def plc (c : Nat) : Option Nat := if c = 58 then some 0 else if c = 59 then some 1 else if c = 97 then some 2 else if c = 98 then some 3 else if c = 99 then some 4 else none
/-- the state behind a text -/
def runM (R : List (List Nat)) : Nat → List Nat → Option Nat
  | s, [] => some s
  | s, c :: l => match plc c with
    | none => none
    | some k => runM R (mv R s k) l
def oV : Option Nat → V
  | none => .non
  | some s => .int (s : Nat)
theorem runM_app (R : List (List Nat)) : ∀ (l : List Nat) (s : Nat) (m : List Nat), runM R s (l ++ m) = (runM R s l).bind fun t => runM R t m
  | [], s, m => rfl
  | c :: l, s, m => by
    rw [List.cons_append, runM, runM]
    cases plc c with
    | none => rfl
    | some k => exact runM_app R l _ m
theorem plc_lt {c k : Nat} (h : plc c = some k) : k < 5 := by
  unfold plc at h
  repeat' split at h
  all_goals first | cases h; omega | cases h
theorem getS_plc (c : Nat) : Gx.getS [(":", 0), (";", 1), ("a", 2), ("b", 3), ("c", 4)] (Gx.mkS [c]) = (plc c).map (fun k : Nat => (k : Int)) := by
  have hs : ∀ n : Nat, (Gx.mkS [n] == Gx.mkS [c]) = decide (c = n) := fun n => by
    rw [show (Gx.mkS [n] == Gx.mkS [c]) = decide (Gx.mkS [n] = Gx.mkS [c]) from rfl]
    exact decide_eq_decide.mpr (by rw [Gx.mkS_inj]; simp [eq_comm])
  have e1 : (":" : Str) = Gx.mkS [58] := Gx.ofS ":"
  have e2 : (";" : Str) = Gx.mkS [59] := Gx.ofS ";"
  have e3 : ("a" : Str) = Gx.mkS [97] := Gx.ofS "a"
  have e4 : ("b" : Str) = Gx.mkS [98] := Gx.ofS "b"
  have e5 : ("c" : Str) = Gx.mkS [99] := Gx.ofS "c"
  rw [e1, e2, e3, e4, e5]
  simp only [Gx.getS, hs, decide_eq_true_eq]
  unfold plc
  repeat' split
  all_goals rfl
theorem runM_lt {R : List (List Nat)} (five : Five R) : ∀ (l : List Nat) (s t : Nat), s < R.length → runM R s l = some t → t < R.length
  | [], s, t, hs, h => by cases h; exact hs
  | c :: l, s, t, hs, h => by
    rw [runM] at h
    cases e : plc c with
    | none => rw [e] at h; cases h
    | some k =>
      rw [e] at h
      exact runM_lt five l _ t (five.mv_lt hs (plc_lt e)) h
def sp_safter (K : PySem.W.Frag) (C : Addr) : Sp := fun vs H Q _ => ∃ p R F l, vs = [.ref p, .str (Gx.mkS l)] ∧ MachAt K C H p R F ∧ Five R ∧ Q (oV (runM R 0 l)) H
theorem G_Machine_state_after (T : Txt K mg w) : FnOk P w K mg base CX0 1 T.f_Machine_state_after T.fd_Machine_state_after ["self", "text"] (sp_safter K T.a_Machine) := by
  refine T.F_Machine_state_after.ok sc_Machine_state_after (fun vs H Q E h => ?_) (fun cdv A outer s H vs Q E hr h => ?_)
  · obtain ⟨p, R, F, l, rfl, _⟩ := h
    rfl
  · obtain ⟨p, R, F, l, rfl, ⟨dx, x, y, hp, d1, d2⟩, five, q⟩ := h
    obtain ⟨r, xs, rfl, hx, hd⟩ := rowsD_at d1
    refine ⟨_, ((pss_cons (ps_set (i := 2) sc_Machine_state_after.nd rfl (Or.inl rfl) pe_int)
  (pss_cons (ps_for PassesOwn.never rfl (pi_str (pv 1)) (pg_name (i := 3) sc_Machine_state_after.nd rfl (Or.inl rfl))
  (pss_cons (ps_set (i := 4) sc_Machine_state_after.nd rfl (Or.inl rfl) (Gx.pe_kget T.kd_PLACES T.g_PLACES rfl (pv 3) (pe_un un_neg pe_int) ⟨rfl, rfl, rfl, rfl⟩))
  (pss_cons (ps_if (pt_cmpR op_lt (pv 4) pe_int (nomark _))
  (pss_one (ps_ret pe_non))
  pss_nil)
  (pss_one (ps_set (i := 2) sc_Machine_state_after.nd rfl (Or.inl rfl) (pe_ix ix_seq (pe_ix ix_tup (pe_fld (pv 0) rfl) (pv 2) (fun _ _ => rfl)) (pv 4) (fun _ _ => rfl)))))))
  (pss_one (ps_ret (pv 2)))))), ?_⟩
    rw [st_Machine_state_after]
    try dsimp only [cxOf]
    walk_at "g"
    refine Gx.for_str (fun i σ H' => H' = H ∧ ∃ (s : Nat) (y1 y2 : Option V), runM R 0 (l.take i) = some s ∧ σ = [some (.ref p), some (.str (Gx.mkS l)), some (.int (s : Nat)), y1, y2]) ⟨rfl, 0, none, none, rfl, rfl⟩ ?_ ?_
    · rintro i c σ H' hc ⟨rfl, s, y1, y2, hs, rfl⟩
      have hsl := runM_lt five _ _ _ five.1 hs
      have hstep : runM R 0 (l.take (i + 1)) = (plc c).map fun k => mv R s k := by
        rw [List.take_add_one, hc, Option.toList_some, runM_app, hs, Option.bind_some, runM]
        cases plc c <;> rfl
      have hrest : plc c = none → runM R 0 l = none := fun e => by
        rw [e] at hstep
        rw [← List.take_append_drop (i + 1) l, runM_app, hstep]
        rfl
      walk_at "g"
      rw [getS_plc]
      cases hp' : plc c with
      | none =>
        rw [hrest hp'] at q
        show rI0 _ (V.int (-1)) (V.int 0) H' _
        walk_at "g"
        exact q
      | some k =>
        have hk := plc_lt hp'
        rw [hp'] at hstep
        show rI0 _ (V.int (k : Nat)) (V.int 0) H' _
        walk_at "g"
        refine Gx.iteD (fun c => absurd c (by omega)) (fun _ => ?_)
        walk_at "g"
        refine ⟨p, T.a_Machine, dx, _, _, rfl, hp, T.c_Machine, T.n_Machine_rows, lk_rows _ _, ?_⟩
        obtain ⟨r2, e2, h2⟩ := rows_get hd (List.getElem?_eq_getElem hsl)
        walk_at "g"
        refine Gx.ixT hx (Gx.atI_of (k := s) rfl e2) ?_
        walk_at "g"
        have hrl := (five.2 s hsl).1
        refine Gx.ixQ (k := k) (.inr h2) rfl (v := .int (mv R s k : Nat)) ?_ ?_
        · rw [List.getElem?_map]
          unfold mv
          rw [List.getD_eq_getElem?_getD, List.getD_eq_getElem?_getD, List.getElem?_eq_getElem hsl, Option.getD_some]
          rw [List.getD_eq_getElem?_getD, List.getElem?_eq_getElem hsl, Option.getD_some] at hrl
          rw [List.getElem?_eq_getElem (by omega)]
          rfl
        · walk_at "g"
          exact ⟨rfl, mv R s k, _, _, hstep, rfl⟩
    · rintro σ H' ⟨rfl, s, y1, y2, hs, rfl⟩
      rw [List.take_length] at hs
      walk_at "g"
      rw [hs] at q
      exact q
def sp_contains (K : PySem.W.Frag) (C : Addr) : Sp := fun vs H Q _ => ∃ p R F l, vs = [.ref p, .str (Gx.mkS l)] ∧ MachAt K C H p R F ∧ Five R ∧ F.length = R.length ∧ Q (.bl (match runM R 0 l with | none => false | some s => F.getD s false)) H
theorem G_Machine_contains (T : Txt K mg w) : FnOk P w K mg base CX0 2 T.f_Machine_contains T.fd_Machine_contains ["self", "text"] (sp_contains K T.a_Machine) := by
  have G_Machine_state_after := G_Machine_state_after (P := P) (w := w) (base := base) T
  refine T.F_Machine_contains.ok sc_Machine_contains (fun vs H Q E h => ?_) (fun cdv A outer s H vs Q E hr h => ?_)
  · obtain ⟨p, R, F, l, rfl, _⟩ := h
    rfl
  · obtain ⟨p, R, F, l, rfl, hm, five, hF, q⟩ := h
    refine ⟨_, ((pss_cons (ps_set (i := 2) sc_Machine_contains.nd rfl (Or.inl rfl) (pe_meth (pv 0) T.c_Machine T.m_Machine_state_after G_Machine_state_after (hr.mono (by first | decide | omega)) T.b_Machine_state_after .nil pass0 (pa_cons (pv 1) pa_nil)))
  (pss_one (ps_ret (pe_and (pe_cmpR Gx.op_notNG (pv 2) pe_non (nomark _)) (pe_one (pe_ix ix_tup (pe_fld (pv 0) rfl) (pv 2) (fun _ _ => rfl)))))))), ?_⟩
    rw [st_Machine_contains]
    try dsimp only [cxOf]
    walk_at "g"
    obtain ⟨dx, x, y, hp, d1, d2⟩ := id hm
    refine ⟨p, dx, _, rfl, hp, rfl, ?_⟩
    walk_at "g"
    refine ⟨p, R, F, l, rfl, hm, five, ?_⟩
    obtain ⟨r, rfl, hx⟩ := finsD_at d2
    cases hr : runM R 0 l with
    | none =>
      rw [hr] at q
      show (fun x H1 => gName 2 x [some (V.ref p), some (V.str (Gx.mkS l)), none] H1 _) V.non H
      walk_at "g"
      exact q
    | some s =>
      have hsl := runM_lt five _ _ _ five.1 hr
      rw [hr] at q
      show (fun x H1 => gName 2 x [some (V.ref p), some (V.str (Gx.mkS l)), none] H1 _) (V.int (s : Nat)) H
      walk_at "g"
      refine ⟨p, T.a_Machine, dx, _, _, rfl, hp, T.c_Machine, T.n_Machine_finals, lk_finals _ _, ?_⟩
      walk_at "g"
      refine Gx.ixT hx (Gx.atI_of (k := s) rfl (v := .bl (F.getD s false)) ?_) ?_
      · rw [List.getElem?_map, List.getD_eq_getElem?_getD, List.getElem?_eq_getElem (by omega)]
        rfl
      · exact q
def sp_meq (K : PySem.W.Frag) (C : Addr) : Sp := fun vs H Q _ => ∃ (p : Addr) (y : V) (R : List (List Nat)) (F : List Bool), vs = [.ref p, y] ∧ MachAt K C H p R F ∧
  ((∃ p2 R2 F2, y = .ref p2 ∧ MachAt K C H p2 R2 F2 ∧ Q (.bl (decide (R = R2 ∧ F = F2))) H) ∨ (∃ t : Value, TyX K H y t ∧ PySem.W.kitOne K t (.ref C) = some false ∧ Q (.bl false) H))
theorem G_Machine_eq (T : Txt K mg w) : FnOk P w K mg base CX0 1 T.f_Machine_eq T.fd_Machine_eq ["self", "other"] (sp_meq K T.a_Machine) := by
  refine T.F_Machine_eq.ok sc_Machine_eq (fun vs H Q E h => ?_) (fun cdv A outer s H vs Q E hr h => ?_)
  · obtain ⟨p, y, R, F, rfl, _⟩ := h
    rfl
  · obtain ⟨p, y, R, F, rfl, ⟨dx, vx, vy, hp, d1, d2⟩, hq⟩ := h
    refine ⟨_, ((pss_one (ps_ret (pe_and (pe_callB call_isi (by rfl) T.z_isinstance bt_isinstance (pa_cons (pv 1) (pa_cons (pe_glob (v := .ref T.a_Machine) rfl T.g_Machine rfl) pa_nil))) (pe_and (pe_cmpR (op_eqD hr.units) (pe_fld (pv 0) rfl) (pe_fld (pv 1) rfl) (nomark _)) (pe_one (pe_cmpR (op_eqD hr.units) (pe_fld (pv 0) rfl) (pe_fld (pv 1) rfl) (nomark _)))))))), ?_⟩
    rw [st_Machine_eq]
    try dsimp only [cxOf]
    walk_at "g"
    have tyS : ∀ {p dx fs}, H p = some (.ins T.a_Machine dx fs) → TyX K H (.ref p) (.ref T.a_Machine) := fun h => .base (.ins h T.c_Machine T.ha_Machine T.hn_ T.htk_ T.hm_Machine)
    rcases hq with ⟨p2, R2, F2, rfl, ⟨dx2, vx2, vy2, hp2, d3, d4⟩, q⟩ | ⟨t, ty, kt, q⟩
    · refine Gx.isi (.own _) (tyS hp2) (b := true) (by simp [PySem.W.kitOne]) ?_
      walk_at "g"
      refine ⟨p, T.a_Machine, dx, _, _, rfl, hp, T.c_Machine, T.n_Machine_rows, lk_rows _ _, ?_⟩
      walk_at "g"
      refine ⟨p2, T.a_Machine, dx2, _, _, rfl, hp2, T.c_Machine, T.n_Machine_rows, lk_rows _ _, ?_⟩
      walk_at "g"
      refine ⟨_, _, d1, d3, shaped_rowsD _, shaped_rowsD _, ?_⟩
      rw [eqv_rowsD]
      walk_at "g"
      refine Gx.iteD (fun h1 => ?_) (fun h1 => ?_)
      · walk_at "g"
        refine ⟨p, T.a_Machine, dx, _, _, rfl, hp, T.c_Machine, T.n_Machine_finals, lk_finals _ _, ?_⟩
        walk_at "g"
        refine ⟨p2, T.a_Machine, dx2, _, _, rfl, hp2, T.c_Machine, T.n_Machine_finals, lk_finals _ _, ?_⟩
        walk_at "g"
        refine ⟨_, _, d2, d4, shaped_finsD _, shaped_finsD _, ?_⟩
        rw [eqv_finsD, show decide (F = F2) = decide (R = R2 ∧ F = F2) from decide_eq_decide.mpr ⟨fun h => ⟨h1, h⟩, fun h => h.2⟩]
        exact q
      · walk_at "g"
        rw [show decide (R = R2 ∧ F = F2) = false from decide_eq_false fun h => h1 h.1] at q
        exact q
    · refine Gx.isi (.own _) ty kt ?_
      walk_at "g"
      exact q
/-- at a: a list of lists of numbers -/
def LsAt (K : PySem.W.Frag) (H : Hp) (a : Addr) (rows : List (List Nat)) : Prop := ∃ vs : List V, SqL K H a vs ∧ vs.length = rows.length ∧ ∀ (i : Nat) (row : List Nat), rows[i]? = some row → ∃ r, vs[i]? = some (V.ref r) ∧ SqL K H r (row.map fun n => V.int (n : Nat))
theorem LsAt.same {H H' : Hp} {a : Addr} {rows : List (List Nat)} (h : LsAt K H a rows) (e : Same H H') : LsAt K H' a rows :=
  let ⟨vs, h1, h2, h3⟩ := h
  ⟨vs, e.seq h1, h2, fun i row hi => let ⟨r, a, b⟩ := h3 i row hi; ⟨r, a, e.seq b⟩⟩
theorem LsAt.rows {H : Hp} {a : Addr} {rows : List (List Nat)} (h : LsAt K H a rows) : RowsAt K H a rows :=
  let ⟨vs, h1, h2, h3⟩ := h
  ⟨vs, .inl h1, h2, fun i row hi => let ⟨r, a, b⟩ := h3 i row hi; ⟨r, a, .inl b⟩⟩
theorem Five.ok {rows : List (List Nat)} (h : Five rows) (n : rows.length ≤ 20000) : RowsOk rows := by
  refine ⟨h.1, n, fun row hr => ?_⟩
  obtain ⟨i, hi⟩ := List.mem_iff_getElem?.mp hr
  have hil := (List.getElem?_eq_some_iff.mp hi).1
  obtain ⟨l, t⟩ := h.2 i hil
  rw [List.getD_eq_getElem?_getD, hi, Option.getD_some] at l t
  exact ⟨by omega, t⟩
/-- at d: a list of lists, made here -/
def LsP (H : Hp) (d : Addr) (rows : List (List V)) : Prop := ∃ rs : List Addr, H d = some (.lst (rs.map V.ref)) ∧ rs.length = rows.length ∧ d ∉ rs ∧ ∀ (j : Nat) (r : Addr) (row : List V), rs[j]? = some r → rows[j]? = some row → H r = some (.lst row)
theorem LsP.same {H H' : Hp} {d : Addr} {rows : List (List V)} (m : LsP H d rows) (e : Same H H') : LsP H' d rows :=
  let ⟨rs, a, b, c, f⟩ := m
  ⟨rs, e _ _ a, b, c, fun j r row x y => e _ _ (f j r row x y)⟩
theorem LsP.nil {H : Hp} {d : Addr} (e : H d = some (.lst [])) : LsP H d [] := ⟨[], e, rfl, by simp, fun j r row x _ => by cases x⟩
theorem LsP.snoc {H H' : Hp} {d E : Addr} {rows : List (List V)} {row : List V} (m : LsP H d rows) (e : Same H H') (nE : H E = none) (hE : H' E = some (.lst row)) :
    ∃ acc, H' d = some (.lst acc) ∧ acc.length = rows.length ∧ LsP (upd H' d (.lst (acc ++ [.ref E]))) d (rows ++ [row]) := by
  obtain ⟨rs, a, b, c, f⟩ := m
  have ne : E ≠ d := fun z => by rw [z, a] at nE; cases nE
  refine ⟨rs.map V.ref, e _ _ a, by rw [List.length_map, b], rs ++ [E], by rw [upd_same, List.map_append]; rfl, by rw [List.length_append, List.length_append, b]; rfl, ?_, ?_⟩
  · intro z
    rcases List.mem_append.mp z with z | z
    · exact c z
    · exact ne (List.mem_singleton.mp z).symm
  · intro j r row' hr hw
    by_cases q : j < rs.length
    · rw [List.getElem?_append_left q] at hr
      rw [List.getElem?_append_left (by omega)] at hw
      rw [upd_ne (fun z : r = d => c (z ▸ List.mem_of_getElem? hr))]
      exact e _ _ (f j r row' hr hw)
    · have hl := (List.getElem?_eq_some_iff.mp hr).1
      rw [List.length_append, List.length_singleton] at hl
      have ej : j = rs.length := by omega
      subst ej
      rw [List.getElem?_append_right (Nat.le_refl _), Nat.sub_self] at hr
      rw [List.getElem?_append_right (by omega), b, Nat.sub_self] at hw
      cases hr
      cases hw
      rw [upd_ne ne]
      exact hE
theorem LsP.at_ {H : Hp} {d : Addr} {rows : List (List V)} (m : LsP H d rows) : ∃ vs, H d = some (.lst vs) ∧ vs.length = rows.length ∧ ∀ (i : Nat) (row : List V), rows[i]? = some row → ∃ r, vs[i]? = some (V.ref r) ∧ H r = some (.lst row) := by
  obtain ⟨rs, a, b, c, f⟩ := m
  refine ⟨rs.map V.ref, a, by rw [List.length_map, b], fun i row hi => ?_⟩
  have hil := (List.getElem?_eq_some_iff.mp hi).1
  have hr : rs[i]? = some rs[i] := List.getElem?_eq_getElem (by omega)
  exact ⟨rs[i], by rw [List.getElem?_map, hr]; rfl, f i _ row hr hi⟩
theorem LsP.lsAt {H : Hp} {d : Addr} {rows : List (List Nat)} (m : LsP H d (rows.map fun row => row.map fun n => V.int (n : Nat))) : LsAt K H d rows := by
  obtain ⟨vs, a, b, c⟩ := m.at_
  rw [List.length_map] at b
  refine ⟨vs, SqL.of a, b, fun i row hi => ?_⟩
  obtain ⟨r, h1, h2⟩ := c i _ (by rw [List.getElem?_map, hi]; rfl)
  exact ⟨r, h1, SqL.of h2⟩
end
end K03
namespace K03
open PySem PySem.Spec PyProof.Rows L2
local macro_rules | `(tactic| walk_at "con") => `(tactic| first | with_reducible refine Gx.conE K03.ks0 ?_ | with_reducible refine Gx.conE K03.ks1 ?_ | with_reducible refine Gx.conE K03.ks2 ?_ | with_reducible refine Gx.conE K03.ks3 ?_ | with_reducible refine Gx.conE K03.ks4 ?_ | with_reducible refine Gx.conE K03.ks5 ?_ | with_reducible refine Gx.conE K03.ks6 ?_ | with_reducible refine Gx.conE K03.ks7 ?_ | with_reducible refine Gx.conE K03.ks8 ?_ | with_reducible refine Gx.conE K03.ks9 ?_ | with_reducible refine Gx.conE K03.ks10 ?_ | with_reducible refine Gx.conE K03.ks11 ?_ | with_reducible refine Gx.conE K03.ks12 ?_ | with_reducible refine Gx.conE K03.ks13 ?_ | with_reducible refine Gx.conE K03.ks14 ?_ | with_reducible refine Gx.conE K03.ks15 ?_)
section
variable {P : Program} {w : World} {K : PySem.W.Frag} {mg : Str → Option Value} {base : Heap}
/-- at d: a list of n new lists of n truth values -/
def MatAt (H0 H : Hp) (d : Addr) (n : Nat) (A : Nat → Nat → Bool) : Prop := H0 d = none ∧ ∃ ps : List Addr, H d = some (.lst (ps.map V.ref)) ∧ ps.length = n ∧ ps.Nodup ∧ d ∉ ps ∧ (∀ r ∈ ps, H0 r = none) ∧ ∀ (p : Nat) (r : Addr), ps[p]? = some r → H r = some (.lst ((List.range n).map fun q => V.bl (A p q)))
/-- the first i of them -/
def MatP (H0 H : Hp) (d : Addr) (i n : Nat) (A : Nat → Nat → Bool) : Prop := H0 d = none ∧ ∃ ps : List Addr, H d = some (.lst (ps.map V.ref)) ∧ ps.length = i ∧ ps.Nodup ∧ d ∉ ps ∧ (∀ r ∈ ps, H0 r = none) ∧ ∀ (p : Nat) (r : Addr), ps[p]? = some r → H r = some (.lst ((List.range n).map fun q => V.bl (A p q)))
theorem MatP.same {H0 H H' : Hp} {d : Addr} {i n : Nat} {A : Nat → Nat → Bool} (m : MatP H0 H d i n A) (e : Same H H') : MatP H0 H' d i n A :=
  let ⟨a, ps, b, c, h, f, g, k⟩ := m
  ⟨a, ps, e _ _ b, c, h, f, g, fun p r z => e _ _ (k p r z)⟩
theorem MatP.snoc {H0 H H' : Hp} {d E : Addr} {i n : Nat} {A : Nat → Nat → Bool} (m : MatP H0 H d i n A) (e : Same H H') (nE : H E = none) (hE : H' E = some (.lst ((List.range n).map fun q => V.bl (A i q)))) (fE : H0 E = none) :
    ∃ acc, H' d = some (.lst acc) ∧ acc.length = i ∧ MatP H0 (upd H' d (.lst (acc ++ [.ref E]))) d (i + 1) n A := by
  obtain ⟨a, ps, b, c, h, f, g, k⟩ := m
  have ne : E ≠ d := fun z => by rw [z, b] at nE; cases nE
  have nE' : E ∉ ps := fun z => by
    obtain ⟨p, hp⟩ := List.mem_iff_getElem?.mp z
    rw [k p E hp] at nE
    cases nE
  refine ⟨ps.map V.ref, e _ _ b, by rw [List.length_map, c], a, ps ++ [E], by rw [upd_same, List.map_append]; rfl, by rw [List.length_append, c]; rfl, ?_, ?_, ?_, ?_⟩
  · rw [List.nodup_append]
    exact ⟨h, by simp, fun x hx y hy e => by
      cases List.mem_singleton.mp hy
      exact nE' (e ▸ hx)⟩
  · intro z
    rcases List.mem_append.mp z with z | z
    · exact f z
    · exact ne (List.mem_singleton.mp z).symm
  · intro r hr
    rcases List.mem_append.mp hr with z | z
    · exact g r z
    · cases List.mem_singleton.mp z
      exact fE
  · intro p r hp
    by_cases q : p < ps.length
    · rw [List.getElem?_append_left q] at hp
      rw [upd_ne (fun e : r = d => f (e ▸ List.mem_of_getElem? hp))]
      exact e _ _ (k p r hp)
    · have hl := (List.getElem?_eq_some_iff.mp hp).1
      rw [List.length_append, List.length_singleton] at hl
      have e : p = i := by omega
      subst e
      rw [List.getElem?_append_right (by omega), c, Nat.sub_self] at hp
      cases hp
      rw [upd_ne ne]
      exact hE
theorem bl_get {fin : List Bool} {i : Nat} (h : i < fin.length) : (fin.map V.bl)[i]? = some (.bl (fin.getD i false)) := by
  rw [List.getElem?_map, List.getElem?_eq_getElem h, List.getD_eq_getElem?_getD, List.getElem?_eq_getElem h]
  rfl
theorem int_get {l : List Nat} {i : Nat} (h : i < l.length) : (l.map fun n => V.int (n : Nat))[i]? = some (.int (l.getD i 0 : Nat)) := by
  rw [List.getElem?_map, List.getElem?_eq_getElem h, List.getD_eq_getElem?_getD, List.getElem?_eq_getElem h]
  rfl
theorem row_get {rows : List (List Nat)} {i : Nat} (h : i < rows.length) : rows[i]? = some (rows.getD i []) := by
  rw [List.getD_eq_getElem?_getD, List.getElem?_eq_getElem h]
  rfl
theorem range_set {n q : Nat} {f : Nat → V} {v : V} : ((List.range n).map f).set q v = (List.range n).map fun y => if y = q then v else f y := by
  refine List.ext_getElem (by simp) fun i h1 h2 => ?_
  rw [List.getElem_set]
  simp only [List.getElem_map, List.getElem_range]
  by_cases e : q = i
  · rw [if_pos e, if_pos e.symm]
  · rw [if_neg e, if_neg (fun z => e z.symm)]
theorem MatAt.get {H0 H : Hp} {d : Addr} {n : Nat} {A : Nat → Nat → Bool} (m : MatAt H0 H d n A) {p : Nat} (hp : p < n) : ∃ (xs : List V) (r : Addr), H d = some (.lst xs) ∧ xs.length = n ∧ xs[p]? = some (.ref r) ∧ H r = some (.lst ((List.range n).map fun q => V.bl (A p q))) ∧ H0 r = none ∧
    ∀ q, q < n → ∃ B, (∀ x y, B x y = (A x y || (decide (x = p) && decide (y = q)))) ∧ MatAt H0 (upd H r (.lst (((List.range n).map fun q => V.bl (A p q)).set q (.bl true)))) d n B := by
  obtain ⟨a, ps, b, c, h, f, g, k⟩ := m
  have hr : ps[p]? = some ps[p] := List.getElem?_eq_getElem (by omega)
  have hm := List.mem_of_getElem? hr
  refine ⟨ps.map V.ref, ps[p], b, by rw [List.length_map, c], by rw [List.getElem?_map, hr]; rfl, k p _ hr, g _ hm, fun q hq => ⟨_, fun x y => rfl, a, ps, ?_, c, h, f, g, fun x r hx => ?_⟩⟩
  · rw [upd_ne (fun e : d = ps[p] => f (by rw [e]; exact hm))]
    exact b
  · have hxl := (List.getElem?_eq_some_iff.mp hx).1
    by_cases e : x = p
    · subst e
      rw [hr] at hx
      cases hx
      rw [upd_same, range_set]
      congr 2
      refine List.map_congr_left fun y hy => ?_
      by_cases e2 : y = q
      · subst e2
        simp
      · rw [if_neg e2]
        simp [e2]
    · have ne : r ≠ ps[p] := fun z => by
        subst z
        rw [List.getElem?_eq_getElem hxl] at hx
        have h1 := h.idxOf_getElem x hxl
        rw [Option.some.inj hx, h.idxOf_getElem p (by omega)] at h1
        exact e h1.symm
      rw [upd_ne ne]
      rw [k x r hx]
      congr 2
      refine List.map_congr_left fun y hy => ?_
      simp [e]
theorem MatAt.same {H0 H H' : Hp} {d : Addr} {n : Nat} {A : Nat → Nat → Bool} (m : MatAt H0 H d n A) (e : Same H H') : MatAt H0 H' d n A := MatP.same (i := n) m e
theorem mat_get {n p q : Nat} {A : Nat → Nat → Bool} (h : q < n) : ((List.range n).map fun q => V.bl (A p q))[q]? = some (.bl (A p q)) := by
  rw [List.getElem?_map, List.getElem?_range h]
  rfl
/-- in a round -/
structure Step (rows : List (List Nat)) (fin : List Bool) (A B : Nat → Nat → Bool) (ch : Bool) (done : Nat → Nat → Prop) : Prop where
  fair : Fair rows fin B
  up : ∀ x y, A x y = true → B x y = true
  dn : ch = false → ∀ x y, B x y = true → A x y = true
  hit : ∀ x, x < rows.length → ∀ y, y < rows.length → done x y → B x y = false → ∀ k, k < 5 → A (mv rows x k) (mv rows y k) = false
theorem Step.init {rows : List (List Nat)} {fin : List Bool} {A : Nat → Nat → Bool} (h : Fair rows fin A) : Step rows fin A A false (fun x _ => x < 0) := ⟨h, fun _ _ e => e, fun _ _ _ e => e, fun _ _ _ _ z => absurd z (Nat.not_lt_zero _)⟩
theorem Step.more {rows : List (List Nat)} {fin : List Bool} {A B : Nat → Nat → Bool} {ch : Bool} {d e : Nat → Nat → Prop} (h : Step rows fin A B ch d) (f : ∀ x, x < rows.length → ∀ y, y < rows.length → e x y → d x y) : Step rows fin A B ch e := ⟨h.fair, h.up, h.dn, fun x hx y hy z => h.hit x hx y hy (f x hx y hy z)⟩
theorem not_up {A B : Nat → Nat → Bool} (h : ∀ x y, A x y = true → B x y = true) {x y : Nat} (e : B x y = false) : A x y = false := by
  cases q : A x y with
  | false => rfl
  | true => rw [h x y q] at e; cases e
theorem Step.skip {rows : List (List Nat)} {fin : List Bool} {A B : Nat → Nat → Bool} {ch : Bool} {d : Nat → Nat → Prop} (h : Step rows fin A B ch d) {p q : Nat} (g : B p q = true ∨ ∀ k, k < 5 → B (mv rows p k) (mv rows q k) = false) : Step rows fin A B ch (fun x y => d x y ∨ (x = p ∧ y = q)) := by
  refine ⟨h.fair, h.up, h.dn, fun x hx y hy z e k hk => ?_⟩
  rcases z with z | ⟨rfl, rfl⟩
  · exact h.hit x hx y hy z e k hk
  · rcases g with g | g
    · rw [g] at e; cases e
    · exact not_up h.up (g k hk)
theorem Step.put {rows : List (List Nat)} {fin : List Bool} {A B C : Nat → Nat → Bool} {ch : Bool} {d : Nat → Nat → Prop} (five : Five rows) (h : Step rows fin A B ch d) {p q k : Nat} (hp : p < rows.length) (hq : q < rows.length) (hk : k < 5) (g : B (mv rows p k) (mv rows q k) = true)
    (hC : ∀ x y, C x y = (B x y || (decide (x = p) && decide (y = q)) || (decide (x = q) && decide (y = p)))) : Step rows fin A C true (fun x y => d x y ∨ (x = p ∧ y = q)) := by
  have up : ∀ x y, B x y = true → C x y = true := fun x y e => by rw [hC, e]; rfl
  refine ⟨h.fair.put five hp hq hk g fun x y e => ?_, fun x y e => up x y (h.up x y e), (fun z => by cases z), fun x hx y hy z e j hj => ?_⟩
  · rw [hC] at e
    simpa [or_assoc] using e
  · rcases z with z | ⟨rfl, rfl⟩
    · exact h.hit x hx y hy z (not_up up e) j hj
    · rw [hC] at e
      simp at e
def sp_apart (K : PySem.W.Frag) : Sp := fun vs H Q _ => ∃ (a f : Addr) (rows : List (List Nat)) (fin : List Bool), vs = [.ref a, .ref f] ∧ LsAt K H a rows ∧ Five rows ∧ rows.length ≤ 100 ∧ SqL K H f (fin.map V.bl) ∧ fin.length = rows.length ∧
  ∀ H' d A, Same H H' → MatAt H H' d rows.length A → Told rows fin A → Q (.ref d) H'
theorem G__law_apart (T : Txt K mg w) : FnOk P w K mg base CX0 1 T.f__law_apart T.fd__law_apart ["rows", "finals"] (sp_apart K) := by
  refine T.F__law_apart.ok sc__law_apart (fun vs H Q E h => ?_) (fun cdv A outer s H vs Q E hr h => ?_)
  · obtain ⟨a, f, rows, fin, rfl, _⟩ := h
    rfl
  · obtain ⟨a, f, rows, fin, rfl, hR, five, hn, hF, hfl, q⟩ := h
    refine ⟨_, ((pss_cons (ps_set (i := 2) sc__law_apart.nd rfl (Or.inr rfl) (pe_callB Gx.cr_lenQ (by rfl) T.z_len bt_len (pa_cons (pv 0) pa_nil)))
  (pss_cons (ps_set (i := 3) sc__law_apart.nd rfl (Or.inr rfl) (pe_lc (own := [("p", 5)]) (g := gName 5) (tt := tYes) (by rfl) sc__law_apart.nd (pi_range1 rfl T.z_range (pa_cons (pv 2) pa_nil)) (blkOk_by (N := ["rows", "finals", "many", "apart", "q", "p", "turn", "changed", "hits", "k"]) (sc := defScope s__law_apart) (by decide +kernel)) (fun _ _ _ _ _ => (pg_name (i := 5) sc__law_apart.nd rfl (Or.inr rfl))) (fun _ _ _ _ _ => pts_nil) (fun _ _ _ _ _ => (pe_lc (own := [("q", 4)]) (g := gName 4) (tt := tYes) (by rfl) sc__law_apart.nd (pi_range1 rfl T.z_range (pa_cons (pv 2) pa_nil)) (blkOk_by (N := ["rows", "finals", "many", "apart", "q", "p", "turn", "changed", "hits", "k"]) (by kernel_rfl)) (fun _ _ _ _ _ => (pg_name (i := 4) sc__law_apart.nd rfl (Or.inl rfl))) (fun _ _ _ _ _ => pts_nil) (fun _ _ _ _ _ => (pe_cmpR op_ne (pe_ix (r := rIxL K) ix_list (pv 1) (pv 5) (fun _ _ => rfl)) (pe_ix (r := rIxL K) ix_list (pv 1) (pv 4) (fun _ _ => rfl)) (nomark _)))))))
  (C8.pss_cut (ps_for PassesOwn.never rfl (pi_range1 rfl T.z_range (pa_cons (pv 2) pa_nil)) (pg_name (i := 6) sc__law_apart.nd rfl (Or.inl rfl))
  (pss_cons (ps_set (i := 7) sc__law_apart.nd rfl (Or.inl rfl) pe_bl)
  (pss_cons (ps_for PassesOwn.never rfl (pi_range1 rfl T.z_range (pa_cons (pv 2) pa_nil)) (pg_name (i := 5) sc__law_apart.nd rfl (Or.inr rfl))
  (pss_one (ps_for PassesOwn.never rfl (pi_range1 rfl T.z_range (pa_cons (pv 2) pa_nil)) (pg_name (i := 4) sc__law_apart.nd rfl (Or.inr rfl))
  (pss_one (ps_if (pt_not (pt_val (pe_ix ix_list (pe_ix ix_list (pv 3) (pv 5) (fun _ _ => rfl)) (pv 4) (fun _ _ => rfl))))
  (pss_cons (ps_setLc (i := 8) (own := [("k", 9)]) (g := gName 9)  rfl sc__law_apart.nd rfl rfl (sw_true rfl rfl rfl (by decide +kernel)) (pi_range1 rfl T.z_range (pa_cons pe_int pa_nil)) (blkOk_by (N := ["rows", "finals", "many", "apart", "q", "p", "turn", "changed", "hits", "k"]) (sc := defScope s__law_apart) (by decide +kernel)) (fun _ _ _ _ _ => (pg_name (i := 9) sc__law_apart.nd rfl (Or.inl rfl))) (fun _ _ _ _ _ => (pts_one (pt_val (pe_ix (r := rIxL K) ix_list (pe_ix (r := rIxL K) ix_list (pv 3) (pe_ix (r := rIxL K) ix_list (pe_ix (r := rIxL K) ix_list (pv 0) (pv 5) (fun _ _ => rfl)) (pv 9) (fun _ _ => rfl)) (fun _ _ => rfl)) (pe_ix (r := rIxL K) ix_list (pe_ix (r := rIxL K) ix_list (pv 0) (pv 4) (fun _ _ => rfl)) (pv 9) (fun _ _ => rfl)) (fun _ _ => rfl))))) (fun _ _ _ _ _ => (pv 9)))
  (pss_one (ps_if (pt_cmpR op_gt (pe_callB Gx.cr_lenQ (by rfl) T.z_len bt_len (pa_cons (pv 8) pa_nil)) pe_int (nomark _))
  (pss_cons (ps_asg pe_bl (pg_sub (pe_ix ix_list (pv 3) (pv 5) (fun _ _ => rfl)) (pv 4) set_list))
  (pss_cons (ps_asg pe_bl (pg_sub (pe_ix ix_list (pv 3) (pv 4) (fun _ _ => rfl)) (pv 5) set_list))
  (pss_one (ps_set (i := 7) sc__law_apart.nd rfl (Or.inl rfl) pe_bl))))
  pss_nil)))
  pss_nil)))))
  (pss_one (ps_if (pt_not (pt_val (pv 7)))
  (pss_one ps_break)
  pss_nil)))))
  (pss_one (ps_ret (pv 3))))))), ?_⟩
    rw [st__law_apart]
    try dsimp only [cxOf]
    obtain ⟨vs, hS, hl, hrow⟩ := id hR
    walk_at "g"
    rw [hl]
    refine ⟨_, rfl, by omega, by omega, fun D nD => lc_range (lo := 0) (n := (((rows.length : Nat) : Int)).toNat) (fun i H' => Same H H' ∧ MatP H H' D i rows.length (fun p q => fin.getD p false != fin.getD q false)) ⟨Gx.Same.put (Same.refl H) nD, nD, [], upd_same, rfl, List.nodup_nil, by simp, by simp, fun p r z => by cases z⟩ ?_ ?_⟩
    · rintro i H1 hi ⟨s1, m1⟩
      walk_at "g"
      refine ⟨rfl, ?_⟩
      walk_at "g"
      refine ⟨_, rfl, by omega, by omega, fun E nE => lc_range (lo := 0) (n := (((rows.length : Nat) : Int)).toNat) (fun j H' => Same H1 H' ∧ H' E = some (.lst ((List.range j).map fun q => V.bl (fin.getD i false != fin.getD q false)))) ⟨Gx.Same.put (Same.refl H1) nE, upd_same⟩ ?_ ?_⟩
      · rintro j H2 hj ⟨s2, e2⟩
        have hF2 := (s1.trans s2).seq hF
        walk_at "g"
        refine ⟨rfl, ?_⟩
        walk_at "g"
        refine Gx.ixL hF2 (Gx.atI_of (k := i) (by omega) (bl_get (by omega))) ?_
        walk_at "g"
        refine Gx.ixL hF2 (Gx.atI_of (k := j) (by omega) (bl_get (by omega))) ?_
        walk_at "g"
        refine ⟨_, e2, Gx.lineL (by simp; omega), Gx.Same.put s2 nE, ?_⟩
        rw [upd_same, List.range_succ, List.map_append]
        rfl
      · rintro H2 ⟨s2, e2⟩
        obtain ⟨acc, h1, h2, h3⟩ := m1.snoc s2 nE e2 (s1.free nE)
        exact ⟨acc, h1, Gx.lineL (by omega), Gx.Same.put (s1.trans s2) nD, h3⟩
    · rintro H1 ⟨s1, m1⟩
      walk_at "g"
      refine ⟨fun σ H' => ∃ (A : Nat → Nat → Bool) (y1 y2 y3 y4 y5 y6 : Option V), Same H H' ∧ MatAt H H' D rows.length A ∧ Told rows fin A ∧ σ = [some (.ref a), some (.ref f), some (.int rows.length), some (.ref D), y1, y2, y3, y4, y5, y6], ?_, ?_⟩
      · walk_at "g"
        refine ⟨_, rfl, by omega, by omega, for_range (lo := 0) (n := (((rows.length : Nat) : Int)).toNat) (fun i σ H' => ∃ (A : Nat → Nat → Bool) (y1 y2 y3 y4 y5 y6 : Option V), Same H H' ∧ MatAt H H' D rows.length A ∧ Round rows fin i A ∧ σ = [some (.ref a), some (.ref f), some (.int rows.length), some (.ref D), y1, y2, y3, y4, y5, y6])
          ⟨_, none, none, none, none, none, none, s1, m1, Round.init fun p _ q _ => rfl, rfl⟩ ?_ ?_⟩
        · rintro i σ H2 hi ⟨A, y1, y2, y3, y4, y5, y6, s2, m2, rd, rfl⟩
          walk_at "g"
          refine ⟨_, rfl, by omega, by omega, for_range (lo := 0) (n := (((rows.length : Nat) : Int)).toNat) (fun p σ H' => ∃ (B : Nat → Nat → Bool) (ch : Bool) (y1 y2 y5 y6 : Option V), Same H H' ∧ MatAt H H' D rows.length B ∧ Step rows fin A B ch (fun x _ => x < p) ∧ σ = [some (.ref a), some (.ref f), some (.int rows.length), some (.ref D), y1, y2, some (.int (0 + i)), some (.bl ch), y5, y6])
            ⟨A, false, y1, y2, y5, y6, s2, m2, Step.init rd.1, rfl⟩ ?_ ?_⟩
          · rintro p σ H3 hp ⟨B, ch, y1, y2, y5, y6, s3, m3, st3, rfl⟩
            walk_at "g"
            refine ⟨_, rfl, by omega, by omega, for_range (lo := 0) (n := (((rows.length : Nat) : Int)).toNat) (fun q σ H' => ∃ (B : Nat → Nat → Bool) (ch : Bool) (y1 y5 y6 : Option V), Same H H' ∧ MatAt H H' D rows.length B ∧ Step rows fin A B ch (fun x y => x < p ∨ (x = p ∧ y < q)) ∧ σ = [some (.ref a), some (.ref f), some (.int rows.length), some (.ref D), y1, some (.int (0 + p)), some (.int (0 + i)), some (.bl ch), y5, y6])
              ⟨B, ch, y1, y5, y6, s3, m3, st3.more (fun x _ y _ z => z.elim id fun z => absurd z.2 (Nat.not_lt_zero _)), rfl⟩ ?_ ?_⟩
            · rintro q σ H4 hq ⟨B, ch, y1, y5, y6, s4, m4, st4, rfl⟩
              have hp' : p < rows.length := by omega
              have hq' : q < rows.length := by omega
              obtain ⟨xs, rp, d4, xl, xp, rp4, fp, put4⟩ := m4.get hp'
              have hrd : (some rp : Option Addr).isSome := rfl
              walk_at "g"
              refine Gx.ixL (SqL.of d4) (Gx.atI_of (k := p) (by omega) xp) ?_
              walk_at "g"
              refine Gx.ixL (SqL.of rp4) (Gx.atI_of (k := q) (by omega) (mat_get hq')) ?_
              cases hb : B p q with
              | true =>
                walk_at "g"
                exact ⟨B, ch, _, _, _, s4, m4, (st4.skip (.inl hb)).more fun x _ y _ z => by omega, rfl⟩
              | false =>
                walk_at "g"
                refine ⟨_, rfl, by omega, by omega, fun E nE => lc_range (lo := 0) (n := (5 : Int).toNat) (fun k H' => Same H4 H' ∧ ∃ hs : List V, H' E = some (.lst hs) ∧ hs.length ≤ k ∧ (hs = [] → ∀ j, j < k → B (mv rows p j) (mv rows q j) = false) ∧ (hs ≠ [] → ∃ j, j < 5 ∧ B (mv rows p j) (mv rows q j) = true))
                  ⟨Gx.Same.put (Same.refl H4) nE, [], upd_same, Nat.le_refl _, fun _ j hj => absurd hj (Nat.not_lt_zero _), fun z => absurd rfl z⟩ ?_ ?_⟩
                · rintro k H5 hk ⟨s5, hs, e5, l5, z1, z2⟩
                  have hk' : k < 5 := hk
                  have sH5 := s4.trans s5
                  have hS5 := sH5.seq hS
                  obtain ⟨r1, v1, q1⟩ := hrow p _ (row_get hp')
                  obtain ⟨r2, v2, q2⟩ := hrow q _ (row_get hq')
                  have q1 := sH5.seq q1
                  have q2 := sH5.seq q2
                  have g1 : ((rows.getD p []).map fun n => V.int (n : Nat))[k]? = some (.int (mv rows p k : Nat)) := int_get (by rw [(five.2 p hp').1]; exact hk')
                  have g2 : ((rows.getD q []).map fun n => V.int (n : Nat))[k]? = some (.int (mv rows q k : Nat)) := int_get (by rw [(five.2 q hq').1]; exact hk')
                  obtain ⟨ys, rm, d5, yl, yp, rm5, _, _⟩ := (m4.same s5).get (five.mv_lt hp' hk')
                  walk_at "g"
                  refine ⟨rfl, ?_⟩
                  walk_at "g"
                  refine Gx.ixL hS5 (Gx.atI_of (k := p) (by omega) v1) ?_
                  walk_at "g"
                  refine Gx.ixL q1 (Gx.atI_of (k := k) (by omega) g1) ?_
                  walk_at "g"
                  refine Gx.ixL (SqL.of d5) (Gx.atI_of (k := mv rows p k) rfl yp) ?_
                  walk_at "g"
                  refine Gx.ixL hS5 (Gx.atI_of (k := q) (by omega) v2) ?_
                  walk_at "g"
                  refine Gx.ixL q2 (Gx.atI_of (k := k) (by omega) g2) ?_
                  walk_at "g"
                  refine Gx.ixL (SqL.of rm5) (Gx.atI_of (k := mv rows q k) rfl (mat_get (five.mv_lt hq' hk'))) ?_
                  cases hh : B (mv rows p k) (mv rows q k) with
                  | true =>
                    walk_at "g"
                    exact ⟨hs, e5, Gx.lineL (by omega), Gx.Same.put s5 nE, _, upd_same, by rw [List.length_append]; show _ + 1 ≤ _; omega, fun z => absurd z (by simp), fun _ => ⟨k, hk', hh⟩⟩
                  | false =>
                    walk_at "g"
                    refine ⟨s5, hs, e5, by omega, fun z j hj => ?_, z2⟩
                    by_cases e : j = k
                    · subst e
                      exact hh
                    · exact z1 z j (by omega)
                · rintro H5 ⟨s5, hs, e5, l5, z1, z2⟩
                  have m5 := m4.same s5
                  have sH5 := s4.trans s5
                  walk_at "g"
                  refine Gx.lenL (SqL.of e5) ?_
                  walk_at "g"
                  refine Gx.iteD (fun c => ?_) (fun c => ?_)
                  · obtain ⟨k, hk, hh⟩ := z2 (fun z => by rw [z] at c; simp at c)
                    obtain ⟨xs5, rp5, d5, xl5, xp5, rpe5, fp5, put5⟩ := m5.get hp'
                    obtain ⟨B1, hB1, m6⟩ := put5 q hq'
                    have s6 : Same H (upd H5 rp5 (.lst (((List.range rows.length).map fun y => V.bl (B p y)).set q (.bl true)))) := Gx.Same.put sH5 fp5
                    walk_at "g"
                    refine Gx.ixL (SqL.of d5) (Gx.atI_of (k := p) (by omega) xp5) ?_
                    walk_at "g"
                    refine Gx.setL (j := q) rpe5 (by omega) (by simp; omega) ?_
                    generalize upd H5 rp5 (.lst (((List.range rows.length).map fun y => V.bl (B p y)).set q (.bl true))) = H6 at m6 s6 ⊢
                    obtain ⟨xs6, rq6, d6, xl6, xq6, rqe6, fq6, put6⟩ := m6.get hq'
                    obtain ⟨B2, hB2, m7⟩ := put6 p hp'
                    have s7 : Same H (upd H6 rq6 (.lst (((List.range rows.length).map fun y => V.bl (B1 q y)).set p (.bl true)))) := Gx.Same.put s6 fq6
                    walk_at "g"
                    refine Gx.ixL (SqL.of d6) (Gx.atI_of (k := q) (by omega) xq6) ?_
                    walk_at "g"
                    refine Gx.setL (j := p) rqe6 (by omega) (by simp; omega) ?_
                    generalize upd H6 rq6 (.lst (((List.range rows.length).map fun y => V.bl (B1 q y)).set p (.bl true))) = H7 at m7 s7 ⊢
                    walk_at "g"
                    exact ⟨B2, true, _, _, _, s7, m7, (st4.put five hp' hq' hk hh fun x y => by rw [hB2, hB1]).more fun x _ y _ z => by omega, rfl⟩
                  · have hz : hs = [] := by
                      cases hs with
                      | nil => rfl
                      | cons x l => simp at c
                    walk_at "g"
                    exact ⟨B, ch, _, _, _, sH5, m5, (st4.skip (.inr (z1 hz))).more fun x _ y _ z => by omega, rfl⟩
            · rintro σ H4 ⟨B, ch, y1, y5, y6, s4, m4, st4, rfl⟩
              refine ⟨B, ch, _, _, _, _, s4, m4, st4.more (fun x _ y hy z => ?_), rfl⟩
              omega
          · rintro σ H3 ⟨B, ch, y1, y2, y5, y6, s3, m3, st3, rfl⟩
            have full := st3.more (e := fun x y => x < rows.length ∧ y < rows.length) (fun x hx y hy z => by omega)
            have hgo := rd.go five full.fair (fun x hx y hy e => not_up full.up e) (fun x hx y hy k hk e => full.hit x hx y hy ⟨hx, hy⟩ e k hk)
            walk_at "g"
            cases ch with
            | true =>
              walk_at "g"
              exact ⟨B, _, _, _, _, _, _, s3, m3, hgo, rfl⟩
            | false =>
              walk_at "g"
              refine ⟨B, _, _, _, _, _, _, s3, m3, hgo.stop fun x hx y hy e k hk => ?_, rfl⟩
              have h1 := full.hit x hx y hy ⟨hx, hy⟩ e k hk
              cases h2 : B (mv rows x k) (mv rows y k) with
              | false => rfl
              | true => rw [full.dn rfl _ _ h2] at h1; cases h1
        · rintro σ H2 ⟨A, y1, y2, y3, y4, y5, y6, s2, m2, rd, rfl⟩
          exact ⟨A, _, _, _, _, _, _, s2, m2, Round.full five (by simpa using rd), rfl⟩
      · rintro σ H2 ⟨A, y1, y2, y3, y4, y5, y6, s2, m2, told, rfl⟩
        walk_at "g"
        exact q H2 D A s2 m2 told
end
end K03
namespace K03
open PySem PySem.Spec PyProof.Rows L2
local macro_rules | `(tactic| walk_at "con") => `(tactic| first | with_reducible refine Gx.conE K03.ks0 ?_ | with_reducible refine Gx.conE K03.ks1 ?_ | with_reducible refine Gx.conE K03.ks2 ?_ | with_reducible refine Gx.conE K03.ks3 ?_ | with_reducible refine Gx.conE K03.ks4 ?_ | with_reducible refine Gx.conE K03.ks5 ?_ | with_reducible refine Gx.conE K03.ks6 ?_ | with_reducible refine Gx.conE K03.ks7 ?_ | with_reducible refine Gx.conE K03.ks8 ?_ | with_reducible refine Gx.conE K03.ks9 ?_ | with_reducible refine Gx.conE K03.ks10 ?_ | with_reducible refine Gx.conE K03.ks11 ?_ | with_reducible refine Gx.conE K03.ks12 ?_ | with_reducible refine Gx.conE K03.ks13 ?_ | with_reducible refine Gx.conE K03.ks14 ?_ | with_reducible refine Gx.conE K03.ks15 ?_)
section
variable {P : Program} {w : World} {K : PySem.W.Frag} {mg : Str → Option Value} {base : Heap}
/-- the least machine as the law reckons it -/
def LawLeast (rows : List (List Nat)) (fin : List Bool) (R : List (List Nat)) (F : List Bool) : Prop := ∃ A o, Told rows fin A ∧ LeastOf (joinR rows A) fin o (fun x => x) o ∧ R = lRows (joinR rows A) (fun x => x) o ∧ F = lFins fin o
def sp_lleast (K : PySem.W.Frag) : Sp := fun vs H Q _ => ∃ (a f : Addr) (rows : List (List Nat)) (fin : List Bool), vs = [.ref a, .ref f] ∧ LsAt K H a rows ∧ Five rows ∧ rows.length ≤ 100 ∧ SqL K H f (fin.map V.bl) ∧ fin.length = rows.length ∧
  ∀ H' u x y R F, Same H H' → H' u = some (.tup [x, y]) → Dp K H' x (rowsD R) → Dp K H' y (finsD F) → LawLeast rows fin R F → Q (.ref u) H'
theorem bfs_ge {rows : List (List Nat)} {mk : Nat → Nat} {s0 n : Nat} {pk : List Nat} (b : Bfs rows mk s0 n pk) : n ≤ pk.length := by
  cases b with
  | start => exact Nat.zero_le _
  | @step at_ pk s b e =>
    have h1 := (List.getElem?_eq_some_iff.mp e).1
    have : ∀ (l pk : List Nat), pk.length ≤ (l.foldl (pick1 mk) pk).length := by
      intro l
      induction l with
      | nil => intro pk; exact Nat.le_refl _
      | cons x l ih =>
        intro pk
        obtain ⟨z, hz⟩ := pick1_pre mk pk x
        have := ih (pick1 mk pk x)
        rw [List.foldl_cons]
        rw [hz] at this ⊢
        rw [List.length_append] at this
        omega
    have := this (rows.getD s []) pk
    omega
theorem pick_id (o : List Nat) (t : Nat) : pick1 (fun x => x) o t = if t ∈ o then o else o ++ [t] := by
  unfold pick1
  rw [List.map_id']
theorem inV_ints (o : List Nat) (t : Nat) : inV (.int (t : Nat)) (o.map fun n => V.int (n : Nat)) = decide (t ∈ o) := by
  unfold inV
  induction o with
  | nil => simp
  | cons x o ih =>
    rw [List.map_cons, List.any_cons, ih]
    show (((x : Int) == (t : Int)) || _) = _
    by_cases e : x = t
    · subst e
      simp
    · have : ((x : Int) == (t : Int)) = false := by simp; omega
      rw [this]
      simp [Ne.symm e]
theorem flat_ints (o : List Nat) : (o.map fun n => V.int (n : Nat)).all flatV = true := by
  induction o with
  | nil => rfl
  | cons x o ih => rw [List.map_cons, List.all_cons, ih]; rfl
theorem lt_idx {t : Nat} : ∀ (o : List Nat) (j : Nat), j < o.idxOf t → o[j]? ≠ some t
  | [], j, _, e => by cases e
  | x :: o, j, h, e => by
    rw [List.idxOf_cons] at h
    by_cases c : x = t
    · rw [beq_iff_eq.mpr c] at h
      exact absurd h (Nat.not_lt_zero _)
    · rw [beq_eq_false_iff_ne.mpr c] at h
      cases j with
      | zero => exact c (Option.some.inj e)
      | succ j => exact lt_idx o j (Nat.lt_of_succ_lt_succ h) (by simpa using e)
/-- x in order, not in order, order.index(x): numbers -/
theorem notInI {H : Hp} {Q : VK} {p : Addr} {o : List Nat} {t : Nat} (h : SqL K H p (o.map fun n => V.int (n : Nat))) (q : Q (.bl (!decide (t ∈ o))) H) : rIn K true (.int (t : Nat)) (.ref p) H Q := ⟨p, _, rfl, .inl h, rfl, flat_ints o, by rw [inV_ints]; exact q⟩
theorem indexI {H : Hp} {Q : VK} {p : Addr} {o : List Nat} {t : Nat} (h : SqL K H p (o.map fun n => V.int (n : Nat))) (m : t ∈ o) (q : Q (.int (o.idxOf t : Nat)) H) : rIndex K (.ref p) [.int (t : Nat)] H Q := by
  have hl := List.idxOf_lt_length_of_mem m
  refine ⟨p, _, _, o.idxOf t, .int (t : Nat), rfl, rfl, h, rfl, flat_ints o, ?_, by show ((t : Int) == (t : Int)) = true; simp, fun j z hj hz => ?_, q⟩
  · rw [List.getElem?_map, List.getElem?_eq_getElem hl, List.getElem_idxOf]
    rfl
  · rw [List.getElem?_map, List.getElem?_eq_getElem (by omega)] at hz
    obtain rfl := Option.some.inj hz
    show (((o[j] : Nat) : Int) == (t : Int)) = false
    have : o[j] ≠ t := fun e => lt_idx o j hj (by rw [List.getElem?_eq_getElem (by omega), e])
    simp
    omega
theorem newRow_id (o row : List Nat) : newRow (fun x => x) o row = row.map fun t => o.idxOf t := by
  unfold newRow
  rw [List.map_id']
theorem noL_row (r : List Nat) : Gx.noL (rowD r) = true := by
  have := noLs_rows [r]
  rw [List.map_singleton, Gx.noLs, Gx.noLs, Bool.and_true] at this
  exact this
theorem dpAll_nats {H : Hp} (l : List Nat) : DpAll K H (l.map fun n => V.int (n : Nat)) (l.map fun n => PyData.int (n : Nat)) := by
  have := Gx.dpAll_ints (K := K) (H := H) (l.map fun n : Nat => (n : Int))
  rw [List.map_map, List.map_map] at this
  exact this
theorem dpAll_bools {H : Hp} (l : List Bool) : DpAll K H (l.map V.bl) (l.map PyData.bool) := by
  induction l with
  | nil => exact .nil
  | cons x l ih => exact .cons (.bl _) ih
structure Ord (rows : List (List Nat)) (A : Nat → Nat → Bool) (k : Nat) (o : List Nat) : Prop where
  bfs : Bfs (joinR rows A) (fun x => x) 0 k o
  fx : ∀ s ∈ o, s < rows.length ∧ hd rows.length A s = s
  nd : o.Nodup
  h0 : o[0]? = some 0
  cl : ∀ s ∈ o.take k, ∀ t ∈ (joinR rows A).getD s [], t ∈ o
theorem Ord.least {rows : List (List Nat)} {fin : List Bool} {A : Nat → Nat → Bool} {o : List Nat} (five : Five rows) (told : Told rows fin A) (h : Ord rows A o.length o) : LeastOf (joinR rows A) fin o (fun x => x) o := by
  have cl := h.cl
  rw [List.take_length] at cl
  exact told.least five h.bfs h.fx h.nd h.h0 cl
theorem G__law_least (T : Txt K mg w) : FnOk P w K mg base CX0 2 T.f__law_least T.fd__law_least ["rows", "finals"] (sp_lleast K) := by
  have G__law_apart := G__law_apart (P := P) (w := w) (base := base) T
  refine T.F__law_least.ok sc__law_least (fun vs H Q E h => ?_) (fun cdv A outer s H vs Q E hr h => ?_)
  · obtain ⟨a, f, rows, fin, rfl, _⟩ := h
    rfl
  · obtain ⟨a, f, rows, fin, rfl, hR, five, hn, hF, hfl, q⟩ := h
    refine ⟨_, ((pss_cons (ps_set (i := 2) sc__law_least.nd rfl (Or.inr rfl) (pe_call G__law_apart (hr.mono (by first | decide | omega)) (by rfl) T.g__law_apart T.F__law_apart.kp T.b__law_apart .nil pass0 (pa_cons (pv 0) (pa_cons (pv 1) pa_nil))))
  (pss_cons (ps_set (i := 3) sc__law_least.nd rfl (Or.inr rfl) (pe_lc (own := [("p", 5)]) (g := gName 5) (tt := tYes) (by rfl) sc__law_least.nd (pi_range1 rfl T.z_range (pa_cons (pe_callB Gx.cr_lenQ (by rfl) T.z_len bt_len (pa_cons (pv 0) pa_nil)) pa_nil)) (blkOk_by (N := ["rows", "finals", "apart", "heads", "q", "p", "joined", "target", "row", "order", "k", "due_rows", "state"]) (sc := defScope s__law_least) (by decide +kernel)) (fun _ _ _ _ _ => (pg_name (i := 5) sc__law_least.nd rfl (Or.inr rfl))) (fun _ _ _ _ _ => pts_nil) (fun _ _ _ _ _ => (pe_ix (r := rIxL K) ix_list (pe_lc (own := [("q", 4)]) (g := gName 4)  (by rfl) sc__law_least.nd (pi_range1 rfl T.z_range (pa_cons (pe_callB (r := Gx.rLenQ K) Gx.cr_lenQ (by rfl) T.z_len bt_len (pa_cons (pv 0) pa_nil)) pa_nil)) (blkOk_by (N := ["rows", "finals", "apart", "heads", "q", "p", "joined", "target", "row", "order", "k", "due_rows", "state"]) (by kernel_rfl)) (fun _ _ _ _ _ => (pg_name (i := 4) sc__law_least.nd rfl (Or.inl rfl))) (fun _ _ _ _ _ => (pts_one (pt_not (pt_val (pe_ix (r := rIxL K) ix_list (pe_ix (r := rIxL K) ix_list (pv 2) (pv 5) (fun _ _ => rfl)) (pv 4) (fun _ _ => rfl)))))) (fun _ _ _ _ _ => (pv 4))) pe_int (fun _ _ => rfl)))))
  (pss_cons (ps_set (i := 6) sc__law_least.nd rfl (Or.inr rfl) (pe_lc (own := [("row", 8)]) (g := gName 8) (tt := tYes) (by rfl) sc__law_least.nd (pi_list (pv 0)) (blkOk_by (N := ["rows", "finals", "apart", "heads", "q", "p", "joined", "target", "row", "order", "k", "due_rows", "state"]) (sc := defScope s__law_least) (by decide +kernel)) (fun _ _ _ _ _ => (pg_name (i := 8) sc__law_least.nd rfl (Or.inl rfl))) (fun _ _ _ _ _ => pts_nil) (fun _ _ _ _ _ => (pe_lc (own := [("target", 7)]) (g := gName 7) (tt := tYes) (by rfl) sc__law_least.nd (pi_list (pv 8) : PI _ _ _ (iList K _)) (blkOk_by (N := ["rows", "finals", "apart", "heads", "q", "p", "joined", "target", "row", "order", "k", "due_rows", "state"]) (by kernel_rfl)) (fun _ _ _ _ _ => (pg_name (i := 7) sc__law_least.nd rfl (Or.inl rfl))) (fun _ _ _ _ _ => pts_nil) (fun _ _ _ _ _ => (pe_ix (r := rIxL K) ix_list (pv 3) (pv 7) (fun _ _ => rfl)))))))
  (pss_cons (ps_set (i := 9) sc__law_least.nd rfl (Or.inr rfl) (pe_lst (pa_cons (pe_ix ix_list (pv 3) pe_int (fun _ _ => rfl)) pa_nil)))
  (C8.pss_cut (ps_for PassesOwn.never rfl (pi_range1 rfl T.z_range (pa_cons (pe_callB Gx.cr_lenQ (by rfl) T.z_len bt_len (pa_cons (pv 0) pa_nil)) pa_nil)) (pg_name (i := 10) sc__law_least.nd rfl (Or.inl rfl))
  (pss_cons (ps_if (pt_cmpR op_ge (pv 10) (pe_callB Gx.cr_lenQ (by rfl) T.z_len bt_len (pa_cons (pv 9) pa_nil)) (nomark _))
  (pss_one ps_break)
  pss_nil)
  (pss_one (ps_for PassesOwn.never rfl (pi_list (pe_ix ix_list (pv 6) (pe_ix ix_list (pv 9) (pv 10) (fun _ _ => rfl)) (fun _ _ => rfl))) (pg_name (i := 7) sc__law_least.nd rfl (Or.inl rfl))
  (pss_one (ps_if (pt_cmpR op_notIn_seq (pv 7) (pv 9) rfl)
  (pss_one (ps_expr (pe_bm PySem.F.plainAttrs_list PySem.F.slot_list_append PySem.F.type_list_append mt_append (pv 9) (pa_cons (pv 7) pa_nil))))
  pss_nil))))))
  (pss_cons (ps_set (i := 11) sc__law_least.nd rfl (Or.inl rfl) (pe_callTy Gx.cr_tupL (by rfl) T.z_tuple bt_tuple (pa_cons (pe_lc (own := [("state", 12)]) (g := gName 12) (tt := tYes) (by rfl) sc__law_least.nd (pi_list (pv 9)) (blkOk_by (N := ["rows", "finals", "apart", "heads", "q", "p", "joined", "target", "row", "order", "k", "due_rows", "state"]) (sc := defScope s__law_least) (by decide +kernel)) (fun _ _ _ _ _ => (pg_name (i := 12) sc__law_least.nd rfl (Or.inl rfl))) (fun _ _ _ _ _ => pts_nil) (fun _ _ _ _ _ => (pe_callTy (r := Gx.rTupL K) Gx.cr_tupL (by rfl) T.z_tuple bt_tuple (pa_cons (pe_lc (own := [("target", 7)]) (g := gName 7) (tt := tYes) (by rfl) sc__law_least.nd (pi_list (pe_ix (r := rIxL K) ix_list (pv 6) (pv 12) (fun _ _ => rfl)) : PI _ _ _ (iList K _)) (blkOk_by (N := ["rows", "finals", "apart", "heads", "q", "p", "joined", "target", "row", "order", "k", "due_rows", "state"]) (by kernel_rfl)) (fun _ _ _ _ _ => (pg_name (i := 7) sc__law_least.nd rfl (Or.inl rfl))) (fun _ _ _ _ _ => pts_nil) (fun _ _ _ _ _ => (pe_bm (r := rIndex K) PySem.F.plainAttrs_list PySem.F.slot_list_index PySem.F.type_list_index mt_index (pv 9) (pa_cons (pv 7) pa_nil) : PE _ _ (tBM K _ _ _ _)))) pa_nil)))) pa_nil)))
  (pss_one (ps_ret (pe_tup (pa_cons (pv 11) (pa_cons (pe_callTy Gx.cr_tupL (by rfl) T.z_tuple bt_tuple (pa_cons (pe_lc (own := [("state", 12)]) (g := gName 12) (tt := tYes) (by rfl) sc__law_least.nd (pi_list (pv 9)) (blkOk_by (N := ["rows", "finals", "apart", "heads", "q", "p", "joined", "target", "row", "order", "k", "due_rows", "state"]) (sc := defScope s__law_least) (by decide +kernel)) (fun _ _ _ _ _ => (pg_name (i := 12) sc__law_least.nd rfl (Or.inl rfl))) (fun _ _ _ _ _ => pts_nil) (fun _ _ _ _ _ => (pe_ix (r := rIxL K) ix_list (pv 1) (pv 12) (fun _ _ => rfl)))) pa_nil)) pa_nil)))))))))))), ?_⟩
    rw [st__law_least]
    try dsimp only [cxOf]
    obtain ⟨vs, hS, hl, hrow⟩ := id hR
    walk_at "g"
    refine ⟨a, f, rows, fin, rfl, hR, five, hn, hF, hfl, fun H1 ad A s1 m1 told => ?_⟩
    have hS1 := s1.seq hS
    walk_at "g"
    rw [hl]
    refine ⟨_, rfl, by omega, by omega, fun D nD => lc_range (lo := 0) (n := (((rows.length : Nat) : Int)).toNat) (fun i H' => Same H1 H' ∧ H' D = some (.lst ((List.range i).map fun p => V.int (hd rows.length A p : Nat)))) ⟨Gx.Same.put (Same.refl H1) nD, upd_same⟩ ?_ ?_⟩
    · rintro i H2 hi ⟨s2, e2⟩
      have hi' : i < rows.length := by omega
      have hS2 := s2.seq hS1
      walk_at "g"
      refine ⟨rfl, ?_⟩
      walk_at "g"
      rw [hl]
      refine ⟨_, rfl, by omega, by omega, fun E nE => lc_range (lo := 0) (n := (((rows.length : Nat) : Int)).toNat) (fun j H' => Same H2 H' ∧ H' E = some (.lst (((List.range j).filter fun q => !A i q).map fun q => V.int (q : Nat)))) ⟨Gx.Same.put (Same.refl H2) nE, upd_same⟩ ?_ ?_⟩
      · rintro j H3 hj ⟨s3, e3⟩
        obtain ⟨xs, r, d3, xl, xp, r3, _, _⟩ := (m1.same (s2.trans s3)).get hi'
        have hle := List.length_filter_le (fun q => !A i q) (List.range j)
        rw [List.length_range] at hle
        walk_at "g"
        refine ⟨rfl, ?_⟩
        walk_at "g"
        refine Gx.ixL (SqL.of d3) (Gx.atI_of (k := i) (by omega) xp) ?_
        walk_at "g"
        refine Gx.ixL (SqL.of r3) (Gx.atI_of (k := j) (by omega) (mat_get (by omega))) ?_
        have ef : (List.range (j + 1)).filter (fun q => !A i q) = (List.range j).filter (fun q => !A i q) ++ (if A i j = true then [] else [j]) := by
          rw [List.range_succ, List.filter_append]
          cases hb : A i j <;> simp [hb]
        cases hb : A i j with
        | true =>
          rw [hb, if_pos rfl, List.append_nil] at ef
          walk_at "g"
          exact ⟨s3, by rw [ef]; exact e3⟩
        | false =>
          rw [hb, if_neg (by decide)] at ef
          walk_at "g"
          refine ⟨_, e3, Gx.lineL (by rw [List.length_map]; omega), Gx.Same.put s3 nE, ?_⟩
          rw [upd_same, Int.zero_add, ef, List.map_append]
          rfl
      · rintro H3 ⟨s3, e3⟩
        obtain ⟨h1, h2, h3⟩ := told.hd_at hi'
        walk_at "g"
        refine Gx.ixL (SqL.of e3) (Gx.atI_of (k := 0) rfl (v := .int (hd rows.length A i : Nat)) (by rw [List.getElem?_map, show (((rows.length : Nat) : Int)).toNat = rows.length from rfl, h1]; rfl)) ?_
        refine ⟨_, s3 _ _ e2, Gx.lineL (by simp; omega), Gx.Same.put (s2.trans s3) nD, ?_⟩
        rw [upd_same, List.range_succ, List.map_append]
        rfl
    · rintro H2 ⟨s2, e2⟩
      have e2 : H2 D = some (.lst ((List.range rows.length).map fun p => V.int (hd rows.length A p : Nat))) := e2
      have hhd : ∀ t, t < rows.length → ((List.range rows.length).map fun p => V.int (hd rows.length A p : Nat))[t]? = some (.int (hd rows.length A t : Nat)) := fun t ht => by
        rw [List.getElem?_map, List.getElem?_range ht]
        rfl
      have s02 := s1.trans s2
      have hS2 := s2.seq hS1
      walk_at "g"
      refine ⟨⟨_, hS2⟩, fun J nJ => lc_list (K := K) (a := a) (xs := vs) (fun i H' => Same H2 H' ∧ LsP H' J (((joinR rows A).take i).map fun row => row.map fun n => V.int (n : Nat))) ⟨Gx.Same.put (Same.refl H2) nJ, .nil upd_same⟩ (fun i H' _ z => z.1.seq hS2) ?_ ?_⟩
      · rintro i x H3 hi ⟨s3, m3⟩
        have hi' : i < rows.length := by have := (List.getElem?_eq_some_iff.mp hi).1; omega
        obtain ⟨r, hr1, hr2⟩ := hrow i _ (row_get hi')
        rw [hi] at hr1
        cases hr1
        have hr3 := (s02.trans s3).seq hr2
        obtain ⟨f1, f2⟩ := five.2 i hi'
        walk_at "g"
        refine ⟨rfl, ?_⟩
        walk_at "g"
        refine ⟨⟨_, hr3⟩, fun E nE => lc_list (K := K) (a := r) (xs := (rows.getD i []).map fun n => V.int (n : Nat)) (fun j H' => Same H3 H' ∧ H' E = some (.lst (((rows.getD i []).take j).map fun t => V.int (hd rows.length A t : Nat)))) ⟨Gx.Same.put (Same.refl H3) nE, upd_same⟩ (fun i H' _ z => z.1.seq hr3) ?_ ?_⟩
        · rintro j y H4 hj ⟨s4, e4⟩
          rw [List.getElem?_map] at hj
          cases htj : (rows.getD i [])[j]? with
          | none => rw [htj] at hj; cases hj
          | some t =>
            rw [htj] at hj
            obtain rfl := Option.some.inj hj
            have ht := f2 t (List.mem_of_getElem? htj)
            walk_at "g"
            refine ⟨rfl, ?_⟩
            walk_at "g"
            refine Gx.ixL (SqL.of ((s3.trans s4) _ _ e2)) (Gx.atI_of (k := t) rfl (hhd t ht)) ?_
            refine ⟨_, e4, Gx.lineL (by rw [List.length_map, List.length_take]; omega), Gx.Same.put s4 nE, ?_⟩
            rw [upd_same, List.take_add_one, htj, Option.toList_some, List.map_append]
            rfl
        · rintro H4 ⟨s4, e4⟩
          rw [List.length_map, List.take_length] at e4
          obtain ⟨acc, h1, h2, h3⟩ := m3.snoc s4 nE e4
          refine ⟨acc, h1, Gx.lineL (by rw [h2, List.length_map, List.length_take, joinR_len]; omega), Gx.Same.put (s3.trans s4) nJ, ?_⟩
          have ej : (joinR rows A)[i]? = some ((rows.getD i []).map (hd rows.length A)) := by
            unfold joinR
            rw [List.getElem?_map, row_get hi']
            rfl
          rw [List.take_add_one, ej, Option.toList_some, List.map_append, List.map_singleton, List.map_map]
          exact h3
      · rintro H3 ⟨s3, m3⟩
        rw [hl, ← joinR_len (rows := rows) (A := A), List.take_length] at m3
        have hJ := m3.lsAt (K := K)
        have s03 := s02.trans s3
        obtain ⟨ws, hW, wl, wrow⟩ := id hJ
        walk_at "g"
        refine Gx.ixL (SqL.of (s3 _ _ e2)) (Gx.atI_of (k := 0) rfl (hhd 0 five.1)) ?_
        rw [told.hd_0 five]
        walk_at "g"
        refine Gx.newL (by show 1 ≤ 16777216; decide) fun po H4 E4 => ?_
        have np : H po = none := s03.free E4.fresh
        have s04 := s03.trans E4.same
        have e4 : H4 po = some (.lst (([0] : List Nat).map fun n => V.int (n : Nat))) := E4.at_
        walk_at "g"
        refine ⟨fun σ H' => ∃ (o : List Nat) (y1 y2 y3 y4 y5 y6 y7 : Option V), Same H3 H' ∧ H' po = some (.lst (o.map fun n => V.int (n : Nat))) ∧ Ord rows A o.length o ∧ σ = [some (.ref a), some (.ref f), some (.ref ad), some (.ref D), y1, y2, some (.ref J), y3, y4, some (.ref po), y5, y6, y7], ?_, ?_⟩
        · walk_at "g"
          refine Gx.lenL (s04.seq hS) ?_
          rw [hl]
          walk_at "g"
          refine ⟨_, rfl, by omega, by omega, for_range (lo := 0) (n := (((rows.length : Nat) : Int)).toNat) (fun k σ H' => ∃ (o : List Nat) (y1 y2 y3 y4 y5 y6 y7 : Option V), Same H3 H' ∧ H' po = some (.lst (o.map fun n => V.int (n : Nat))) ∧ Ord rows A k o ∧ σ = [some (.ref a), some (.ref f), some (.ref ad), some (.ref D), y1, y2, some (.ref J), y3, y4, some (.ref po), y5, y6, y7])
            ⟨[0], none, none, none, none, none, none, none, E4.same, e4, ⟨.start, fun s hs => by cases List.mem_singleton.mp hs; exact ⟨five.1, told.hd_0 five⟩, by simp, rfl, fun s hs => by simp at hs⟩, rfl⟩ ?_ ?_⟩
          · rintro k σ H5 hk ⟨o, y1, y2, y3, y4, y5, y6, y7, s5, e5, od, rfl⟩
            have hol := nodup_le o rows.length od.nd fun x hx => (od.fx x hx).1
            have hge := bfs_ge od.bfs
            walk_at "g"
            refine Gx.lenL (SqL.of e5) ?_
            rw [List.length_map]
            walk_at "g"
            refine Gx.iteD (fun c => ?_) (fun c => ?_)
            · have ek : k = o.length := by omega
              subst ek
              walk_at "g"
              exact ⟨o, _, _, _, _, _, _, _, s5, e5, od, rfl⟩
            · have hko : k < o.length := by omega
              obtain ⟨s0, hs0⟩ : ∃ s, o[k]? = some s := ⟨_, List.getElem?_eq_getElem hko⟩
              have hs0n := (od.fx s0 (List.mem_of_getElem? hs0)).1
              have hlen : (joinR rows A).length = rows.length := joinR_len
              obtain ⟨r, hr1, hr2⟩ := wrow s0 _ (row_get (by omega))
              have hr5 := s5.seq hr2
              have htn : ∀ t ∈ (joinR rows A).getD s0 [], t < rows.length ∧ hd rows.length A t = t := fun t ht => by
                rw [joinR_get hs0n] at ht
                obtain ⟨x, hx, rfl⟩ := List.mem_map.mp ht
                have hxn := (five.2 s0 hs0n).2 x hx
                exact ⟨(told.hd_at hxn).2.1, told.hd_hd five hxn⟩
              walk_at "g"
              refine Gx.ixL (SqL.of e5) (Gx.atI_of (k := k) (by omega) (v := .int (s0 : Nat)) (by rw [List.getElem?_map, hs0]; rfl)) ?_
              walk_at "g"
              refine Gx.ixL (s5.seq hW) (Gx.atI_of (k := s0) rfl hr1) ?_
              walk_at "g"
              refine ⟨⟨_, hr5⟩, for_list (K := K) (a := r) (xs := ((joinR rows A).getD s0 []).map fun n => V.int (n : Nat)) (fun i σ H' => ∃ (o' : List Nat) (y1 y2 y3 y4 y6 y7 : Option V), Same H3 H' ∧ H' po = some (.lst (o'.map fun n => V.int (n : Nat))) ∧ (∃ z, o' = o ++ z) ∧ o' = (((joinR rows A).getD s0 []).take i).foldl (pick1 fun x => x) o ∧ o'.Nodup ∧ (∀ s ∈ o', s < rows.length ∧ hd rows.length A s = s) ∧ (∀ t ∈ ((joinR rows A).getD s0 []).take i, t ∈ o') ∧ σ = [some (.ref a), some (.ref f), some (.ref ad), some (.ref D), y1, y2, some (.ref J), y3, y4, some (.ref po), some (.int (0 + k)), y6, y7])
                ⟨o, _, _, _, _, _, _, s5, e5, ⟨[], (List.append_nil o).symm⟩, rfl, od.nd, od.fx, fun t ht => by simp at ht, rfl⟩ (fun i σ H' _ ⟨_, _, _, _, _, _, _, e, _⟩ => e.seq hr2) ?_ ?_⟩
              · rintro i x σ H6 hi ⟨o', y1, y2, y3, y4, y6, y7, s6, e6, ⟨z, ez⟩, fo, nd6, fx6, tk6, rfl⟩
                rw [List.getElem?_map] at hi
                cases hti : ((joinR rows A).getD s0 [])[i]? with
                | none => rw [hti] at hi; cases hi
                | some t =>
                  rw [hti] at hi
                  obtain rfl := Option.some.inj hi
                  have ht := htn t (List.mem_of_getElem? hti)
                  have hol' := nodup_le o' rows.length nd6 fun x hx => (fx6 x hx).1
                  have htk : ∀ x ∈ ((joinR rows A).getD s0 []).take (i + 1), x ∈ ((joinR rows A).getD s0 []).take i ∨ x = t := fun x hx => by
                    rw [List.take_add_one, hti, Option.toList_some] at hx
                    rcases List.mem_append.mp hx with h | h
                    · exact .inl h
                    · exact .inr (List.mem_singleton.mp h)
                  have fo' : (((joinR rows A).getD s0 []).take (i + 1)).foldl (pick1 fun x => x) o = pick1 (fun x => x) o' t := by
                    rw [List.take_add_one, hti, Option.toList_some, List.foldl_append, ← fo]
                    rfl
                  rw [pick_id] at fo'
                  walk_at "g"
                  refine notInI (SqL.of e6) ?_
                  walk_at "g"
                  by_cases hin : t ∈ o'
                  · rw [if_pos hin] at fo'
                    rw [decide_eq_true hin]
                    walk_at "g"
                    refine ⟨o', _, _, _, _, _, _, s6, e6, ⟨z, ez⟩, fo'.symm, nd6, fx6, fun x hx => ?_, rfl⟩
                    rcases htk x hx with h | rfl
                    · exact tk6 x h
                    · exact hin
                  · rw [if_neg hin] at fo'
                    rw [decide_eq_false hin]
                    walk_at "g"
                    refine Gx.app e6 (by rw [List.length_map, sizeLine_eq]; omega) ?_
                    walk_at "g"
                    refine ⟨o' ++ [t], _, _, _, _, _, _, Gx.Same.put s6 E4.fresh, by rw [upd_same, List.map_append]; rfl, ⟨z ++ [t], by rw [ez, List.append_assoc]⟩, fo'.symm, nodup_snoc nd6 hin, fun s hs => ?_, fun x hx => ?_, rfl⟩
                    · rcases List.mem_append.mp hs with h | h
                      · exact fx6 s h
                      · cases List.mem_singleton.mp h
                        exact ht
                    · rcases htk x hx with h | rfl
                      · exact List.mem_append_left _ (tk6 x h)
                      · exact List.mem_append_right _ (List.mem_singleton.mpr rfl)
              · rintro σ H6 ⟨o', y1, y2, y3, y4, y6, y7, s6, e6, ⟨z, rfl⟩, fo, nd6, fx6, tk6, rfl⟩
                rw [List.length_map, List.take_length] at fo tk6
                refine ⟨o ++ z, _, _, _, _, _, _, _, s6, e6, ⟨?_, fx6, nd6, by rw [List.getElem?_append_left (by omega)]; exact od.h0, fun s hs t ht => ?_⟩, rfl⟩
                · rw [fo]
                  exact .step od.bfs hs0
                · rw [List.take_append_of_le_length (by omega), List.take_add_one, hs0, Option.toList_some] at hs
                  rcases List.mem_append.mp hs with h | h
                  · exact List.mem_append_left _ (od.cl s h t ht)
                  · cases List.mem_singleton.mp h
                    exact tk6 t ht
          · rintro σ H5 ⟨o, y1, y2, y3, y4, y5, y6, y7, s5, e5, od, rfl⟩
            have hol := nodup_le o rows.length od.nd fun x hx => (od.fx x hx).1
            have hge := bfs_ge od.bfs
            have ek : (((rows.length : Nat) : Int)).toNat = o.length := by omega
            rw [ek] at od
            exact ⟨o, _, _, _, _, _, _, _, s5, e5, od, rfl⟩
        · rintro σ H5 ⟨o, y1, y2, y3, y4, y5, y6, y7, s5, e5, od, rfl⟩
          have hcl := od.cl
          rw [List.take_length] at hcl
          have s35 := s5
          walk_at "g"
          refine ⟨⟨_, SqL.of e5⟩, fun U nU => lc_list (K := K) (a := po) (xs := o.map fun n => V.int (n : Nat)) (fun i H' => Same H5 H' ∧ ∃ us, H' U = some (.lst us) ∧ DpAll K H' us (((o.take i).map fun s => newRow (fun x => x) o ((joinR rows A).getD s [])).map rowD)) ⟨Gx.Same.put (Same.refl H5) nU, [], upd_same, .nil⟩ (fun i H' _ z => SqL.of (z.1 _ _ e5)) ?_ ?_⟩
          · rintro i x H6 hi ⟨s6, us, e6, d6⟩
            rw [List.getElem?_map] at hi
            cases hti : o[i]? with
            | none => rw [hti] at hi; cases hi
            | some s0 =>
              rw [hti] at hi
              obtain rfl := Option.some.inj hi
              have hs0 := List.mem_of_getElem? hti
              have hs0n := (od.fx s0 hs0).1
              have hol := nodup_le o rows.length od.nd fun x hx => (od.fx x hx).1
              have hlen : (joinR rows A).length = rows.length := joinR_len
              have hrl : ((joinR rows A).getD s0 []).length = 5 := by rw [joinR_get hs0n, List.length_map]; exact (five.2 s0 hs0n).1
              obtain ⟨r, hr1, hr2⟩ := wrow s0 _ (row_get (by omega))
              have hr6 := (s5.trans s6).seq hr2
              walk_at "g"
              refine ⟨rfl, ?_⟩
              walk_at "g"
              refine Gx.ixL ((s5.trans s6).seq hW) (Gx.atI_of (k := s0) rfl hr1) ?_
              walk_at "g"
              refine ⟨⟨_, hr6⟩, fun E nE => lc_list (K := K) (a := r) (xs := ((joinR rows A).getD s0 []).map fun n => V.int (n : Nat)) (fun j H' => Same H6 H' ∧ H' E = some (.lst ((((joinR rows A).getD s0 []).take j).map fun t => V.int (o.idxOf t : Nat)))) ⟨Gx.Same.put (Same.refl H6) nE, upd_same⟩ (fun i H' _ z => z.1.seq hr6) ?_ ?_⟩
              · rintro j y H7 hj ⟨s7, e7⟩
                rw [List.getElem?_map] at hj
                cases htj : ((joinR rows A).getD s0 [])[j]? with
                | none => rw [htj] at hj; cases hj
                | some t =>
                  rw [htj] at hj
                  obtain rfl := Option.some.inj hj
                  walk_at "g"
                  refine ⟨rfl, ?_⟩
                  walk_at "g"
                  refine ⟨.inl ⟨rfl, _, SqL.of ((s6.trans s7) _ _ e5)⟩, ?_⟩
                  walk_at "g"
                  refine indexI (SqL.of ((s6.trans s7) _ _ e5)) (hcl s0 hs0 t (List.mem_of_getElem? htj)) ?_
                  refine ⟨_, e7, Gx.lineL (by rw [List.length_map, List.length_take]; omega), Gx.Same.put s7 nE, ?_⟩
                  rw [upd_same, List.take_add_one, htj, Option.toList_some, List.map_append]
                  rfl
              · rintro H7 ⟨s7, e7⟩
                rw [List.length_map, List.take_length] at e7
                walk_at "g"
                refine Gx.tupL (SqL.of e7) fun c0 nc => ?_
                have E8 := Gx.ext1 (o := .tup (((joinR rows A).getD s0 []).map fun t => V.int (o.idxOf t : Nat))) nc
                generalize upd H7 c0 (.tup (((joinR rows A).getD s0 []).map fun t => V.int (o.idxOf t : Nat))) = H8 at E8 ⊢
                have s68 := s7.trans E8.same
                have ul := Gx.dpAll_len d6
                rw [List.length_map, List.length_map, List.length_take] at ul
                have dc : Dp K H8 (.ref c0) (rowD (newRow (fun x => x) o ((joinR rows A).getD s0 []))) := by
                  rw [newRow_id]
                  refine .tup (SqT.of E8.at_) ?_
                  have := dpAll_nats (K := K) (H := H8) (((joinR rows A).getD s0 []).map fun t => o.idxOf t)
                  rw [List.map_map] at this
                  exact this
                refine ⟨us, s68 _ _ e6, Gx.lineL (by omega), Gx.Same.put (s6.trans s68) nU, _, upd_same, ?_⟩
                rw [List.take_add_one, hti, Option.toList_some, List.map_append, List.map_append]
                exact Gx.dpAll_snoc (s68 _ _ e6) (Gx.dpAll_same s68 _ _ d6) (noLs_rows _) dc (noL_row _)
          · rintro H6 ⟨s6, us, e6, d6⟩
            rw [List.length_map, List.take_length] at d6
            walk_at "g"
            refine Gx.tupL (SqL.of e6) fun c0 nc => ?_
            have E7 := Gx.ext1 (o := .tup us) nc
            generalize upd H6 c0 (.tup us) = H7 at E7 ⊢
            have s57 := s6.trans E7.same
            have hF7 := (s03.trans (s5.trans s57)).seq hF
            walk_at "g"
            refine ⟨⟨_, SqL.of (s57 _ _ e5)⟩, fun W nW => lc_list (K := K) (a := po) (xs := o.map fun n => V.int (n : Nat)) (fun i H' => Same H7 H' ∧ H' W = some (.lst ((o.take i).map fun s => V.bl (fin.getD s false)))) ⟨Gx.Same.put (Same.refl H7) nW, upd_same⟩ (fun i H' _ z => SqL.of (z.1 _ _ (s57 _ _ e5))) ?_ ?_⟩
            · rintro i x H8 hi ⟨s8, e8⟩
              rw [List.getElem?_map] at hi
              cases hti : o[i]? with
              | none => rw [hti] at hi; cases hi
              | some s0 =>
                rw [hti] at hi
                obtain rfl := Option.some.inj hi
                have hs0n := (od.fx s0 (List.mem_of_getElem? hti)).1
                have hol := nodup_le o rows.length od.nd fun x hx => (od.fx x hx).1
                walk_at "g"
                refine ⟨rfl, ?_⟩
                walk_at "g"
                refine Gx.ixL (s8.seq hF7) (Gx.atI_of (k := s0) rfl (bl_get (by omega))) ?_
                refine ⟨_, e8, Gx.lineL (by rw [List.length_map, List.length_take]; omega), Gx.Same.put s8 nW, ?_⟩
                rw [upd_same, List.take_add_one, hti, Option.toList_some, List.map_append]
                rfl
            · rintro H8 ⟨s8, e8⟩
              rw [List.length_map, List.take_length] at e8
              walk_at "g"
              refine Gx.tupL (SqL.of e8) fun c1 nc1 => ?_
              have E9 := Gx.ext1 (o := .tup (o.map fun s => V.bl (fin.getD s false))) nc1
              generalize upd H8 c1 (.tup (o.map fun s => V.bl (fin.getD s false))) = H9 at E9 ⊢
              walk_at "g"
              refine Gx.newT (by show 2 ≤ 16777216; decide) fun u H10 E10 => ?_
              have s710 := (s8.trans E9.same).trans E10.same
              refine q H10 u _ _ (lRows (joinR rows A) (fun x => x) o) (lFins fin o) (s03.trans (s5.trans (s57.trans s710))) E10.at_ (.tup (SqT.of (s710 _ _ E7.at_)) (Gx.dpAll_same (E7.same.trans s710) _ _ d6)) (.tup (SqT.of (E10.same _ _ E9.at_)) ?_) ⟨A, o, told, od.least five told, rfl, rfl⟩
              have := dpAll_bools (K := K) (H := H10) (lFins fin o)
              unfold lFins at this ⊢
              rw [List.map_map] at this
              exact this
end
end K03
namespace K03
open PySem PySem.Spec PyProof.Rows L2
local macro_rules | `(tactic| walk_at "con") => `(tactic| first | with_reducible refine Gx.conE K03.ks0 ?_ | with_reducible refine Gx.conE K03.ks1 ?_ | with_reducible refine Gx.conE K03.ks2 ?_ | with_reducible refine Gx.conE K03.ks3 ?_ | with_reducible refine Gx.conE K03.ks4 ?_ | with_reducible refine Gx.conE K03.ks5 ?_ | with_reducible refine Gx.conE K03.ks6 ?_ | with_reducible refine Gx.conE K03.ks7 ?_ | with_reducible refine Gx.conE K03.ks8 ?_ | with_reducible refine Gx.conE K03.ks9 ?_ | with_reducible refine Gx.conE K03.ks10 ?_ | with_reducible refine Gx.conE K03.ks11 ?_ | with_reducible refine Gx.conE K03.ks12 ?_ | with_reducible refine Gx.conE K03.ks13 ?_ | with_reducible refine Gx.conE K03.ks14 ?_ | with_reducible refine Gx.conE K03.ks15 ?_)
section
variable {P : Program} {w : World} {K : PySem.W.Frag} {mg : Str → Option Value} {base : Heap}
def sp_ismach (K : PySem.W.Frag) (C : Addr) : Sp := fun vs H Q _ => ∃ (p d : Addr) (x y : V) (R R' : List (List Nat)) (F F' : List Bool), vs = [.ref p, .ref d] ∧ MachAt K C H p R F ∧ Five R ∧ SqT K H d [x, y] ∧ Dp K H x (rowsD R') ∧ Dp K H y (finsD F') ∧ Q (.bl (decide (R = R' ∧ F = F'))) H
theorem G__law_is_machine (T : Txt K mg w) : FnOk P w K mg base CX0 1 T.f__law_is_machine T.fd__law_is_machine ["machine", "due"] (sp_ismach K T.a_Machine) := by
  refine T.F__law_is_machine.ok sc__law_is_machine (fun vs H Q E h => ?_) (fun cdv A outer s H vs Q E hr h => ?_)
  · obtain ⟨p, d, x, y, R, R', F, F', rfl, _⟩ := h
    rfl
  · obtain ⟨p, d, x', y', R, R', F, F', rfl, ⟨dx, x, y, hp, d1, d2⟩, five, hd, d3, d4, q⟩ := h
    obtain ⟨r, xs, rfl, hx, hxd⟩ := rowsD_at d1
    obtain ⟨r2, rfl, hy⟩ := finsD_at d2
    have hl := Gx.dpAll_len hxd
    rw [List.length_map] at hl
    refine ⟨_, ((pss_cons (ps_if (PW.pt (pw_or (pt_not (pt_val (pe_callB call_isi (by rfl) T.z_isinstance bt_isinstance (pa_cons (pe_fld (pv 0) rfl) (pa_cons (pe_bltn (v := .ty "tuple") rfl T.z_tuple bt_tuple rfl) pa_nil))))) (pw_or1 (pt_not (pt_val (pe_callB call_isi (by rfl) T.z_isinstance bt_isinstance (pa_cons (pe_fld (pv 0) rfl) (pa_cons (pe_bltn (v := .ty "tuple") rfl T.z_tuple bt_tuple rfl) pa_nil))))))))
  (pss_one (ps_ret pe_bl))
  pss_nil)
  (pss_cons (ps_for PassesOwn.never rfl (pi_tup (pe_fld (pv 0) rfl)) (pg_name (i := 2) sc__law_is_machine.nd rfl (Or.inl rfl))
  (pss_cons (ps_if (PW.pt (pw_or (pt_not (pt_val (pe_callB call_isi (by rfl) T.z_isinstance bt_isinstance (pa_cons (pv 2) (pa_cons (pe_bltn (v := .ty "tuple") rfl T.z_tuple bt_tuple rfl) pa_nil))))) (pw_or1 (pt_cmpR op_ne (pe_callB Gx.cr_lenQ (by rfl) T.z_len bt_len (pa_cons (pv 2) pa_nil)) pe_int (nomark _)))))
  (pss_one (ps_ret pe_bl))
  pss_nil)
  (pss_one (ps_for PassesOwn.never rfl (pi_tup (pv 2)) (pg_name (i := 3) sc__law_is_machine.nd rfl (Or.inl rfl))
  (pss_one (ps_if (PW.pt (pw_or (pt_not (pt_val (pe_callB call_isi (by rfl) T.z_isinstance bt_isinstance (pa_cons (pv 3) (pa_cons (pe_bltn (v := .ty "int") rfl T.z_int bt_int rfl) pa_nil))))) (pw_or1 (pt_val (pe_callB call_isi (by rfl) T.z_isinstance bt_isinstance (pa_cons (pv 3) (pa_cons (pe_bltn (v := .ty "bool") rfl T.z_bool bt_bool rfl) pa_nil)))))))
  (pss_one (ps_ret pe_bl))
  pss_nil))))))
  (pss_cons (ps_for PassesOwn.never rfl (pi_tup (pe_fld (pv 0) rfl)) (pg_name (i := 4) sc__law_is_machine.nd rfl (Or.inl rfl))
  (pss_one (ps_if (PW.pt (pw_and (pt_cmpR op_notBl (pv 4) pe_bl (nomark _)) (pw_and1 (pt_cmpR op_notBl (pv 4) pe_bl (nomark _)))))
  (pss_one (ps_ret pe_bl))
  pss_nil)))
  (pss_one (ps_ret (pe_and (pe_cmpR (op_eqD hr.units) (pe_fld (pv 0) rfl) (pe_ix ix_tup (pv 1) pe_int (fun _ _ => rfl)) (nomark _)) (pe_one (pe_cmpR (op_eqD hr.units) (pe_fld (pv 0) rfl) (pe_ix ix_tup (pv 1) pe_int (fun _ _ => rfl)) (nomark _)))))))))), ?_⟩
    rw [st__law_is_machine]
    try dsimp only [cxOf]
    walk_at "g"
    refine ⟨p, T.a_Machine, dx, _, _, rfl, hp, T.c_Machine, T.n_Machine_rows, lk_rows _ _, ?_⟩
    walk_at "g"
    refine ⟨p, T.a_Machine, dx, _, _, rfl, hp, T.c_Machine, T.n_Machine_finals, lk_finals _ _, ?_⟩
    walk_at "g"
    refine ⟨p, T.a_Machine, dx, _, _, rfl, hp, T.c_Machine, T.n_Machine_rows, lk_rows _ _, ?_⟩
    refine ⟨r, rfl, ⟨_, hx⟩, for_tup (K := K) (a := r) (xs := xs) (fun i σ H' => H' = H ∧ ∃ (y1 y2 y3 : Option V), σ = [some (.ref p), some (.ref d), y1, y2, y3]) ⟨rfl, _, _, _, rfl⟩ (fun i σ H' _ z => by rw [z.1]; exact hx) ?_ ?_⟩
    · rintro i v σ H' hi ⟨rfl, y1, y2, y3, rfl⟩
      have hi' : i < R.length := by have := (List.getElem?_eq_some_iff.mp hi).1; omega
      obtain ⟨rr, h1, h2⟩ := rows_get hxd (row_get hi')
      rw [hi] at h1
      cases h1
      obtain ⟨f1, f2⟩ := five.2 i hi'
      walk_at "g"
      rw [if_neg (by rw [f1]; decide)]
      walk_at "g"
      refine ⟨⟨_, h2⟩, for_tup (K := K) (a := rr) (xs := (R.getD i []).map fun n => V.int (n : Nat)) (fun i σ H2 => H2 = H' ∧ ∃ (y1 y2 y3 : Option V), σ = [some (.ref p), some (.ref d), y1, y2, y3]) ⟨rfl, _, _, _, rfl⟩ (fun i σ H' _ z => by rw [z.1]; exact h2) ?_ ?_⟩
      · rintro j v σ H3 hj ⟨rfl, y1, y2, y3, rfl⟩
        rw [List.getElem?_map] at hj
        cases hfj : (R.getD i [])[j]? with
        | none => rw [hfj] at hj; cases hj
        | some t =>
          rw [hfj] at hj
          obtain rfl := Option.some.inj hj
          walk_at "g"
          exact ⟨rfl, _, _, _, rfl⟩
      · rintro σ H3 ⟨rfl, y1, y2, y3, rfl⟩
        exact ⟨rfl, _, _, _, rfl⟩
    · rintro σ H' ⟨rfl, y1, y2, y3, rfl⟩
      walk_at "g"
      refine ⟨p, T.a_Machine, dx, _, _, rfl, hp, T.c_Machine, T.n_Machine_finals, lk_finals _ _, ?_⟩
      refine ⟨r2, rfl, ⟨_, hy⟩, for_tup (K := K) (a := r2) (xs := F.map V.bl) (fun i σ H2 => H2 = H' ∧ ∃ (y1 y2 y3 : Option V), σ = [some (.ref p), some (.ref d), y1, y2, y3]) ⟨rfl, _, _, _, rfl⟩ (fun i σ H' _ z => by rw [z.1]; exact hy) ?_ ?_⟩
      · rintro i v σ H' hi ⟨rfl, y1, y2, y3, rfl⟩
        rw [List.getElem?_map] at hi
        cases hfi : F[i]? with
        | none => rw [hfi] at hi; cases hi
        | some b =>
          rw [hfi] at hi
          obtain rfl := Option.some.inj hi
          cases b
          · walk_at "g"
            refine ⟨_, _, rfl, rfl, ?_⟩
            walk_at "g"
            rw [if_pos (by decide)]
            walk_at "g"
            refine ⟨_, _, rfl, rfl, ?_⟩
            walk_at "g"
            rw [if_neg (by decide)]
            walk_at "g"
            exact ⟨rfl, _, _, _, rfl⟩
          · walk_at "g"
            refine ⟨_, _, rfl, rfl, ?_⟩
            walk_at "g"
            rw [if_neg (by decide)]
            walk_at "g"
            exact ⟨rfl, _, _, _, rfl⟩
      · rintro σ H' ⟨rfl, y1, y2, y3, rfl⟩
        walk_at "g"
        refine ⟨p, T.a_Machine, dx, _, _, rfl, hp, T.c_Machine, T.n_Machine_rows, lk_rows _ _, ?_⟩
        walk_at "g"
        refine ⟨_, _, d1, d3, shaped_rowsD _, shaped_rowsD _, ?_⟩
        rw [eqv_rowsD]
        walk_at "g"
        refine Gx.iteD (fun h1 => ?_) (fun h1 => ?_)
        · walk_at "g"
          refine ⟨p, T.a_Machine, dx, _, _, rfl, hp, T.c_Machine, T.n_Machine_finals, lk_finals _ _, ?_⟩
          walk_at "g"
          refine ⟨_, _, d2, d4, shaped_finsD _, shaped_finsD _, ?_⟩
          rw [eqv_finsD, show decide (F = F') = decide (R = R' ∧ F = F') from decide_eq_decide.mpr ⟨fun h => ⟨h1, h⟩, fun h => h.2⟩]
          exact q
        · walk_at "g"
          rw [show decide (R = R' ∧ F = F') = false from decide_eq_false fun h => h1 h.1] at q
          exact q
def sp_says : Sp := fun vs H Q _ => ∃ (a b : Bool), vs = [.bl a, .bl b] ∧ Q (.bl (a == b)) H
theorem G__law_says (T : Txt K mg w) : FnOk P w K mg base CX0 1 T.f__law_says T.fd__law_says ["answer", "due"] sp_says := by
  refine T.F__law_says.ok sc__law_says (fun vs H Q E h => ?_) (fun cdv A outer s H vs Q E hr h => ?_)
  · obtain ⟨a, b, rfl, _⟩ := h
    rfl
  · obtain ⟨a, b, rfl, q⟩ := h
    refine ⟨_, ((pss_cons (ps_if (pt_val (pv 1))
  (pss_one (ps_ret (pe_cmpR op_isBl (pv 0) pe_bl (nomark _))))
  pss_nil)
  (pss_one (ps_ret (pe_cmpR op_isBl (pv 0) pe_bl (nomark _)))))), ?_⟩
    rw [st__law_says]
    try dsimp only [cxOf]
    walk_at "g"
    cases b
    · walk_at "g"
      cases a <;> exact q
    · walk_at "g"
      cases a <;> exact q
/-- int(numbers[at % len(numbers)]) % many -/
def pk0 (xs : List Int) (i m : Nat) : Nat := (xs.getD i 0 % m).toNat
theorem pk0_lt (xs : List Int) (i : Nat) {m : Nat} (h : 0 < m) : pk0 xs i m < m := by
  unfold pk0
  have h1 := Int.emod_nonneg (xs.getD i 0) (b := (m : Int)) (by omega)
  have h2 := Int.emod_lt_of_pos (xs.getD i 0) (b := (m : Int)) (by omega)
  omega
def sp_pick (K : PySem.W.Frag) : Sp := fun vs H Q _ => ∃ (a : Addr) (xs : List Int) (i m : Int), vs = [.ref a, .int i, .int m] ∧ SqL K H a (xs.map V.int) ∧ 0 ≤ i ∧ i < xs.length ∧ 0 < m ∧ Q (.int (pk0 xs i.toNat m.toNat : Nat)) H
theorem G__law_pick (T : Txt K mg w) : FnOk P w K mg base CX0 1 T.f__law_pick T.fd__law_pick ["numbers", "at", "many"] (sp_pick K) := by
  refine T.F__law_pick.ok sc__law_pick (fun vs H Q E h => ?_) (fun cdv A outer s H vs Q E hr h => ?_)
  · obtain ⟨a, ns, i, m, rfl, _⟩ := h
    rfl
  · obtain ⟨a, xs, i, m, rfl, hS, h0, hl, hm, q⟩ := h
    refine ⟨_, ((pss_one (ps_ret (pe_op op_mod (pe_callTy Gx.cr_int1 (by rfl) T.z_int bt_int (pa_cons (pe_ix ix_list (pv 0) (pe_op op_mod (pv 1) (pe_callB Gx.cr_lenQ (by rfl) T.z_len bt_len (pa_cons (pv 0) pa_nil))) (fun _ _ => rfl)) pa_nil)) (pv 2))))), ?_⟩
    rw [st__law_pick]
    try dsimp only [cxOf]
    walk_at "g"
    have e : ((pk0 xs i.toNat m.toNat : Nat) : Int) = xs.getD i.toNat 0 % m := by
      unfold pk0
      have h1 := Int.emod_nonneg (xs.getD i.toNat 0) (b := m) (by omega)
      rw [show ((m.toNat : Nat) : Int) = m by omega]
      omega
    rw [e] at q
    rw [Int.emod_eq_of_lt h0 hl]
    exact q
end
end K03
namespace K03
open PySem PySem.Spec PyProof.Rows L2
local macro_rules | `(tactic| walk_at "con") => `(tactic| first | with_reducible refine Gx.conE K03.ks0 ?_ | with_reducible refine Gx.conE K03.ks1 ?_ | with_reducible refine Gx.conE K03.ks2 ?_ | with_reducible refine Gx.conE K03.ks3 ?_ | with_reducible refine Gx.conE K03.ks4 ?_ | with_reducible refine Gx.conE K03.ks5 ?_ | with_reducible refine Gx.conE K03.ks6 ?_ | with_reducible refine Gx.conE K03.ks7 ?_ | with_reducible refine Gx.conE K03.ks8 ?_ | with_reducible refine Gx.conE K03.ks9 ?_ | with_reducible refine Gx.conE K03.ks10 ?_ | with_reducible refine Gx.conE K03.ks11 ?_ | with_reducible refine Gx.conE K03.ks12 ?_ | with_reducible refine Gx.conE K03.ks13 ?_ | with_reducible refine Gx.conE K03.ks14 ?_ | with_reducible refine Gx.conE K03.ks15 ?_)
section
variable {P : Program} {w : World} {K : PySem.W.Frag} {mg : Str → Option Value} {base : Heap}
/-! ### the law's least machine and the program's, in plain Lean -/
theorem Rl.comp {R S : Nat → Nat → Prop} : ∀ {l m k : List Nat}, Rl R l m → Rl S m k → Rl (fun a c => ∃ b, R a b ∧ S b c) l k
  | _, _, _, .nil, .nil => .nil
  | _, _, _, .cons a t, .cons b u => .cons ⟨_, a, b⟩ (t.comp u)
theorem Sim.comp {r1 r2 r3 : List (List Nat)} {f1 f2 f3 : List Bool} {R S : Nat → Nat → Prop} (h : Sim r1 f1 r2 f2 R) (g : Sim r2 f2 r3 f3 S) : Sim r1 f1 r3 f3 (fun a c => ∃ b, R a b ∧ S b c) := by
  rintro s t ⟨b, x, y⟩
  obtain ⟨a1, a2⟩ := h s b x
  obtain ⟨b1, b2⟩ := g b t y
  exact ⟨a1.trans b1, a2.comp b2⟩
theorem Rl.refl : ∀ l : List Nat, Rl (fun a b => a = b) l l
  | [] => .nil
  | _ :: l => .cons rfl (Rl.refl l)
theorem Sim.refl (rows : List (List Nat)) (fin : List Bool) : Sim rows fin rows fin (fun a b => a = b) := by
  rintro s _ rfl
  exact ⟨rfl, Rl.refl _⟩
theorem LawLeast.same {rows rows' : List (List Nat)} {fin fin' : List Bool} {R : List (List Nat)} {F : List Bool} {S : Nat → Nat → Prop} {o : List Nat} {mk : Nat → Nat} {pk : List Nat} (five : Five rows) (h : LawLeast rows fin R F) (g : Sim rows' fin' rows fin S) (g0 : S 0 0) (L : LeastOf rows' fin' o mk pk) :
    lRows rows' mk pk = R ∧ lFins fin' pk = F := by
  obtain ⟨A, o', told, L', rfl, rfl⟩ := h
  exact least_unique (g.comp (told.sim five)) ⟨0, g0, five.1, (told.hd_0 five).symm⟩ L L'
theorem fold_tk {mk : Nat → Nat} : ∀ (l pk : List Nat), (∃ z, l.foldl (pick1 mk) pk = pk ++ z) ∧ ∀ t ∈ l, mk t ∈ (l.foldl (pick1 mk) pk).map mk
  | [], pk => ⟨⟨[], (List.append_nil _).symm⟩, fun t ht => by cases ht⟩
  | x :: l, pk => by
    obtain ⟨⟨z, hz⟩, h⟩ := fold_tk (mk := mk) l (pick1 mk pk x)
    obtain ⟨y, hy⟩ := pick1_pre mk pk x
    refine ⟨⟨y ++ z, by rw [List.foldl_cons, hz, hy, List.append_assoc]⟩, fun t ht => ?_⟩
    rw [List.foldl_cons]
    rcases List.mem_cons.mp ht with rfl | ht
    · rw [hz, List.map_append]
      exact List.mem_append_left _ (pick1_mem mk pk t)
    · exact h t ht
theorem bfs_tk {rows : List (List Nat)} {mk : Nat → Nat} {s0 n : Nat} {pk : List Nat} (b : Bfs rows mk s0 n pk) : ∀ s ∈ pk.take n, ∀ t ∈ rows.getD s [], mk t ∈ pk.map mk := by
  induction b with
  | start => intro s hs; simp at hs
  | @step at_ pk s0 b e ih =>
    obtain ⟨⟨z, hz⟩, h⟩ := fold_tk (mk := mk) (rows.getD s0 []) pk
    have hl := (List.getElem?_eq_some_iff.mp e).1
    intro s hs t ht
    rw [hz, List.take_append_of_le_length (by omega), List.take_add_one, e, Option.toList_some] at hs
    rcases List.mem_append.mp hs with q | q
    · rw [hz, List.map_append]
      exact List.mem_append_left _ (ih s q t ht)
    · cases List.mem_singleton.mp q
      exact h t ht
theorem bfs_pos {rows : List (List Nat)} {mk : Nat → Nat} {s0 n : Nat} {pk : List Nat} (b : Bfs rows mk s0 n pk) : 0 < pk.length := by
  induction b with
  | start => exact Nat.one_pos
  | @step at_ pk s b e ih =>
    obtain ⟨⟨z, hz⟩, _⟩ := fold_tk (mk := mk) (rows.getD s []) pk
    rw [hz, List.length_append]
    omega
theorem LeastOf.five {rows : List (List Nat)} {fin : List Bool} {o : List Nat} {mk : Nat → Nat} {pk : List Nat} (five : Five rows) (L : LeastOf rows fin o mk pk) : Five (lRows rows mk pk) ∧ (lFins fin pk).length = (lRows rows mk pk).length := by
  obtain ⟨cl, co, bf, sub, nd⟩ := L
  have hl : (lRows rows mk pk).length = pk.length := by unfold lRows; rw [List.length_map]
  have tk := bfs_tk bf
  rw [List.take_length] at tk
  refine ⟨⟨by rw [hl]; exact bfs_pos bf, fun i hi => ?_⟩, by rw [hl]; unfold lFins; rw [List.length_map]⟩
  rw [hl] at hi
  have e : (lRows rows mk pk).getD i [] = newRow mk pk (rows.getD pk[i] []) := by
    unfold lRows
    rw [List.getD_eq_getElem?_getD, List.getElem?_map, List.getElem?_eq_getElem hi]
    rfl
  have hm := List.getElem_mem hi
  rw [e, hl]
  unfold newRow
  refine ⟨by rw [List.length_map]; exact (five.2 _ (cl.2.1 _ (sub _ hm))).1, fun t ht => ?_⟩
  obtain ⟨x, hx, rfl⟩ := List.mem_map.mp ht
  have := List.idxOf_lt_length_of_mem (tk _ hm x hx)
  rwa [List.length_map] at this
theorem joinR_five {rows : List (List Nat)} {fin : List Bool} {A : Nat → Nat → Bool} (five : Five rows) (told : Told rows fin A) : Five (joinR rows A) := by
  refine ⟨by rw [joinR_len]; exact five.1, fun s hs => ?_⟩
  rw [joinR_len] at hs
  rw [joinR_get hs, joinR_len]
  refine ⟨by rw [List.length_map]; exact (five.2 s hs).1, fun t ht => ?_⟩
  obtain ⟨x, hx, rfl⟩ := List.mem_map.mp ht
  exact (told.hd_at ((five.2 s hs).2 x hx)).2.1
theorem LawLeast.five {rows : List (List Nat)} {fin : List Bool} {R : List (List Nat)} {F : List Bool} (five : Five rows) (h : LawLeast rows fin R F) : Five R ∧ F.length = R.length ∧ R.length ≤ rows.length := by
  obtain ⟨A, o', told, L', rfl, rfl⟩ := h
  obtain ⟨h1, h2⟩ := L'.five (joinR_five five told)
  refine ⟨h1, h2, ?_⟩
  have := least_le L'
  rw [joinR_len] at this
  unfold lRows
  rw [List.length_map]
  exact this
theorem runM_some {R : List (List Nat)} (five : Five R) : ∀ (l : List Nat) (s : Nat), s < R.length → (∀ c ∈ l, (plc c).isSome = true) → ∃ t, runM R s l = some t
  | [], s, _, _ => ⟨s, rfl⟩
  | c :: l, s, hs, h => by
    rw [runM]
    have hc := h c List.mem_cons_self
    cases e : plc c with
    | none => rw [e] at hc; cases hc
    | some k => exact runM_some five l _ (five.mv_lt hs (plc_lt e)) fun x hx => h x (List.mem_cons_of_mem _ hx)
theorem runM_bad {R : List (List Nat)} {a b : List Nat} {c : Nat} (h : plc c = none) (s : Nat) : runM R s (a ++ c :: b) = none := by
  rw [runM_app]
  cases runM R s a with
  | none => rfl
  | some t => rw [Option.bind_some, runM, h]
/-! ### products and runs, in plain Lean -/
/-- the least machine's states and the states they stand for -/
def stands (o : List Nat) (mk : Nat → Nat) (pk : List Nat) (i s : Nat) : Prop := i < pk.length ∧ s ∈ o ∧ mk s = mk (pk.getD i 0)
theorem LeastOf.sim {rows : List (List Nat)} {fin : List Bool} {o : List Nat} {mk : Nat → Nat} {pk : List Nat} (L : LeastOf rows fin o mk pk) : Sim (lRows rows mk pk) (lFins fin pk) rows fin (stands o mk pk) := by
  obtain ⟨cl, co, bf, sub, nd⟩ := L
  have tk := bfs_tk bf
  rw [List.take_length] at tk
  rintro i s ⟨hi, hs, e⟩
  have hp := mem_getD hi
  generalize hpi : pk.getD i 0 = p at *
  have hpi' : pk[i]? = some p := by rw [← hpi, List.getD_eq_getElem?_getD, List.getElem?_eq_getElem hi]; rfl
  obtain ⟨f1, m1⟩ := co.1 s hs p (sub p hp) e
  have er : (lRows rows mk pk).getD i [] = newRow mk pk (rows.getD p []) := by
    unfold lRows
    rw [List.getD_eq_getElem?_getD, List.getElem?_map, hpi']
    rfl
  have ln : (rows.getD s []).length = (rows.getD p []).length := by simpa using congrArg List.length m1
  refine ⟨?_, ?_⟩
  · unfold lFins
    rw [List.getD_eq_getElem?_getD, List.getElem?_map, hpi', f1]
    rfl
  · rw [er]
    unfold newRow
    refine Rl.of (by rw [List.length_map, ln]) fun k hk => ?_
    rw [List.length_map] at hk
    have ht : (rows.getD p []).getD k 0 ∈ rows.getD p [] := mem_getD hk
    have hm := tk p hp _ ht
    have hlt := List.idxOf_lt_length_of_mem hm
    have e1 : mk ((rows.getD s []).getD k 0) = mk ((rows.getD p []).getD k 0) := by
      rw [← getD_map_lt (f := mk) (by omega), m1, getD_map_lt hk]
    have e2 : ((rows.getD p []).map fun t => (pk.map mk).idxOf (mk t)).getD k 0 = (pk.map mk).idxOf (mk ((rows.getD p []).getD k 0)) := getD_map_lt (f := fun t => (pk.map mk).idxOf (mk t)) hk
    rw [e2]
    refine ⟨by rwa [List.length_map] at hlt, cl.2.2.2 s hs _ (mem_getD (by omega)), ?_⟩
    rw [e1]
    have key : ∀ m, m ∈ pk.map mk → m = mk (pk.getD ((pk.map mk).idxOf m) 0) := fun m hm => by
      have hlt := List.idxOf_lt_length_of_mem hm
      have hlt' : (pk.map mk).idxOf m < pk.length := by rwa [List.length_map] at hlt
      have h3 := List.getElem_idxOf hlt
      rw [← getD_map_lt (f := mk) hlt', List.getD_eq_getElem?_getD (l := pk.map mk), List.getElem?_eq_getElem hlt, Option.getD_some, h3]
    exact key _ hm
theorem LeastOf.stands0 {rows : List (List Nat)} {fin : List Bool} {o : List Nat} {mk : Nat → Nat} {pk : List Nat} (L : LeastOf rows fin o mk pk) : stands o mk pk 0 0 := by
  obtain ⟨cl, co, bf, sub, nd⟩ := L
  have h0 : ∀ {n pk}, Bfs rows mk 0 n pk → pk[0]? = some 0 := by
    intro n pk b
    induction b with
    | start => rfl
    | @step at_ pk s b e ih =>
      obtain ⟨⟨z, hz⟩, _⟩ := fold_tk (mk := mk) (rows.getD s []) pk
      have := bfs_pos b
      rw [hz, List.getElem?_append_left this]
      exact ih
  have e := h0 bf
  refine ⟨bfs_pos bf, List.mem_of_getElem? cl.2.2.1, ?_⟩
  rw [List.getD_eq_getElem?_getD, e]
  rfl
/-- the same text leads related states to related states -/
theorem Sim.run {A B : List (List Nat)} {fA fB : List Bool} {S : Nat → Nat → Prop} (h : Sim A fA B fB S) (five : Five A) (lt : ∀ s t, S s t → s < A.length) : ∀ (l : List Nat) (s t s' : Nat), S s t → runM A s l = some s' → ∃ t', runM B t l = some t' ∧ S s' t'
  | [], s, t, s', r, e => by cases e; exact ⟨t, rfl, r⟩
  | c :: l, s, t, s', r, e => by
    rw [runM] at e
    cases hp : plc c with
    | none => rw [hp] at e; cases e
    | some k =>
      rw [hp] at e
      have hk := plc_lt hp
      obtain ⟨_, rl⟩ := h s t r
      have := rl.get k (by rw [(five.2 s (lt s t r)).1]; exact hk)
      obtain ⟨t', h1, h2⟩ := Sim.run h five lt l _ _ s' this e
      exact ⟨t', by rw [runM, hp]; exact h1, h2⟩
def mix (cell k : Int) : Int :=
  ((((cell * 48271 + k * 7919 + 101) % 2147483647) * ((cell * 48271 + k * 7919 + 101) % 2147483647) + 31 * ((cell * 48271 + k * 7919 + 101) % 2147483647) + k * k * 17) % 1000000007 * 69621 + 5) % 2147483647 / 7
def sp_mix : Sp := fun vs H Q _ => ∃ (c k : Int), vs = [.int c, .int k] ∧ 0 ≤ k ∧ k < 10000 ∧ Q (.int (mix c k)) H
theorem G__law_mix (T : Txt K mg w) : FnOk P w K mg base CX0 1 T.f__law_mix T.fd__law_mix ["cell", "k"] sp_mix := by
  refine T.F__law_mix.ok sc__law_mix (fun vs H Q E h => ?_) (fun cdv A outer s H vs Q E hr h => ?_)
  · obtain ⟨c, k, rfl, _⟩ := h
    rfl
  · obtain ⟨c, k, rfl, h0, h1, q⟩ := h
    refine ⟨_, ((pss_cons (ps_set (i := 2) sc__law_mix.nd rfl (Or.inl rfl) (pe_op op_mod (pe_op op_add (pe_op op_add (pe_op op_mul (pe_callTy Gx.cr_int1 (by rfl) T.z_int bt_int (pa_cons (pv 0) pa_nil)) pe_int) (pe_op op_mul (pv 1) pe_int)) pe_int) pe_int))
  (pss_cons (ps_set (i := 3) sc__law_mix.nd rfl (Or.inl rfl) (pe_op op_mod (pe_op op_add (pe_op op_add (pe_op op_mul (pv 2) (pv 2)) (pe_op op_mul pe_int (pv 2))) (pe_op op_mul (pe_op op_mul (pv 1) (pv 1)) pe_int)) pe_int))
  (pss_one (ps_ret (pe_op op_fdiv (pe_op op_mod (pe_op op_add (pe_op op_mul (pv 3) pe_int) pe_int) pe_int) pe_int)))))), ?_⟩
    rw [st__law_mix]
    walk_at "g"
    exact q
/-- a digit -/
def Dig (xs : List Int) : Prop := ∀ x ∈ xs, 0 ≤ x ∧ x < 60
theorem Dig.snoc {xs : List Int} {z : Int} (h : Dig xs) (a : 0 ≤ z) (b : z < 60) : Dig (xs ++ [z]) := fun x hx => by
  rcases List.mem_append.mp hx with h1 | h1
  · exact h x h1
  · cases List.mem_singleton.mp h1
    exact ⟨a, b⟩
def sp_stream (K : PySem.W.Frag) : Sp := fun vs H Q _ => ∃ (a : Addr) (ns : List Int) (many : Int), vs = [.ref a, .int many] ∧ SqL K H a (ns.map V.int) ∧ ns.length ≤ 63 ∧ 0 ≤ many ∧ many ≤ 1000 ∧
  ∀ H' p xs, Same H H' → H p = none → H' p = some (.lst (xs.map V.int)) → (xs.length : Int) = many → Dig xs → Q (.ref p) H'
theorem G__law_stream (T : Txt K mg w) : FnOk P w K mg base CX0 2 T.f__law_stream T.fd__law_stream ["script", "many"] (sp_stream K) := by
  have G__law_mix := G__law_mix (P := P) (w := w) (base := base) T
  refine T.F__law_stream.ok sc__law_stream (fun vs H Q E h => ?_) (fun cdv A outer s H vs Q E hr h => ?_)
  · obtain ⟨a, ns, many, rfl, _⟩ := h
    rfl
  · obtain ⟨a, ns, many, rfl, hS, hlen, h0, h1, q⟩ := h
    refine ⟨_, ((pss_cons (ps_set (i := 2) sc__law_stream.nd rfl (Or.inl rfl) pe_int)
  (C8.pss_cut (ps_if (pt_cmpR op_gt (pe_callB Gx.cr_lenQ (by rfl) T.z_len bt_len (pa_cons (pv 0) pa_nil)) pe_int (nomark _))
  (pss_one (ps_set (i := 2) sc__law_stream.nd rfl (Or.inl rfl) (pe_callB Gx.cr_abs (by rfl) T.z_abs bt_abs (pa_cons (pe_callTy Gx.cr_int1 (by rfl) T.z_int bt_int (pa_cons (pe_ix ix_list (pv 0) pe_int (fun _ _ => rfl)) pa_nil)) pa_nil))))
  pss_nil)
  (C8.pss_cut (ps_if (pt_cmpR op_lt (pv 2) (pe_op op_pow pe_int pe_int) (nomark _))
  (pss_one (ps_set (i := 2) sc__law_stream.nd rfl (Or.inl rfl) pe_int))
  pss_nil)
  (pss_cons (ps_set (i := 3) sc__law_stream.nd rfl (Or.inl rfl) (pe_lst pa_nil))
  (pss_cons (ps_for PassesOwn.never rfl (pi_range1 rfl T.z_range (pa_cons (pv 1) pa_nil)) (pg_name (i := 4) sc__law_stream.nd rfl (Or.inl rfl))
  (pss_one (ps_if (pt_cmpR op_gt (pv 2) pe_int (nomark _))
  (pss_cons (ps_expr (pe_bm PySem.F.plainAttrs_list PySem.F.slot_list_append PySem.F.type_list_append mt_append (pv 3) (pa_cons (pe_op op_mod (pv 2) pe_int) pa_nil)))
  (pss_one (ps_set (i := 2) sc__law_stream.nd rfl (Or.inl rfl) (pe_op op_fdiv (pv 2) pe_int))))
  (pss_cons (ps_set (i := 5) sc__law_stream.nd rfl (Or.inl rfl) pe_int)
  (C8.pss_cut (ps_if (pt_cmpR op_gt (pe_callB Gx.cr_lenQ (by rfl) T.z_len bt_len (pa_cons (pv 0) pa_nil)) pe_int (nomark _))
  (pss_one (ps_set (i := 5) sc__law_stream.nd rfl (Or.inl rfl) (pe_ix ix_list (pv 0) (pe_op op_mod (pv 4) (pe_callB Gx.cr_lenQ (by rfl) T.z_len bt_len (pa_cons (pv 0) pa_nil))) (fun _ _ => rfl))))
  pss_nil)
  (pss_one (ps_expr (pe_bm PySem.F.plainAttrs_list PySem.F.slot_list_append PySem.F.type_list_append mt_append (pv 3) (pa_cons (pe_op op_mod (pe_call G__law_mix (hr.mono (by first | decide | omega)) (by rfl) T.g__law_mix T.F__law_mix.kp T.b__law_mix .nil pass0 (pa_cons (pv 5) (pa_cons (pv 4) pa_nil))) pe_int) pa_nil)))))))))
  (pss_one (ps_ret (pv 3))))))))), ?_⟩
    rw [st__law_stream]
    try dsimp only [cxOf]
    walk_at "g"
    have hS' : ∀ H', Same H H' → SqL K H' a (ns.map V.int) := fun H' e => e.seq hS
    -- the first cell
    refine ⟨fun σ H1 => ∃ rest : Int, 0 ≤ rest ∧ H1 = H ∧ σ = [some (.ref a), some (.int many), some (.int rest), none, none, none], ?_, ?_⟩
    · walk_at "g"
      refine Gx.iteD (fun e => ?_) (fun e => ?_)
      · walk_at "g"
        exact ⟨_, by split <;> omega, rfl, rfl⟩
      · walk_at "g"
        exact ⟨0, by omega, rfl, rfl⟩
    · rintro σ H1 ⟨rest, hr0, rfl, rfl⟩
      walk_at "g"
      refine ⟨fun σ H2 => ∃ rest : Int, 0 ≤ rest ∧ H2 = H1 ∧ σ = [some (.ref a), some (.int many), some (.int rest), none, none, none], ?_, ?_⟩
      · walk_at "g"
        refine Gx.iteD (fun e => ?_) (fun e => ?_)
        · walk_at "g"
          exact ⟨0, by omega, rfl, rfl⟩
        · walk_at "g"
          exact ⟨rest, hr0, rfl, rfl⟩
      · rintro σ H2 ⟨rest, hr0, rfl, rfl⟩
        walk_at "g"
        refine Gx.newD (by decide) (fun p H3 E3 => ?_)
        walk_at "g"
        refine ⟨_, rfl, by omega, by omega, for_range (fun i σ H4 => ∃ (rest : Int) (y z : Option V) (xs : List Int), 0 ≤ rest ∧ σ = [some (.ref a), some (.int many), some (.int rest), some (.ref p), y, z] ∧ Same H2 H4 ∧
          H4 p = some (.lst (xs.map V.int)) ∧ xs.length = i ∧ Dig xs) ⟨rest, none, none, [], hr0, rfl, E3.same, E3.at_, rfl, fun x hx => by cases hx⟩ ?_ ?_⟩
        · rintro i σ H4 hi ⟨rest, y, z, xs, h2, rfl, s4, e4, l4, d4⟩
          walk_at "g"
          have hS4 : SqL K H4 a (ns.map V.int) := hS' _ s4
          refine Gx.iteD (fun e => ?_) (fun e => ?_)
          · walk_at "g"
            exact ⟨rest / 60, _, _, xs ++ [rest % 60], by omega, rfl, Gx.Same.put s4 E3.fresh, upd_same, by simp [l4], d4.snoc (by omega) (by omega)⟩
          · walk_at "g"
            refine ⟨fun σ H5 => ∃ cell : Int, H5 = H4 ∧ σ = [some (.ref a), some (.int many), some (.int rest), some (.ref p), some (.int (0 + i)), some (.int cell)], ?_, ?_⟩
            · walk_at "g"
              refine Gx.iteD (fun e => ?_) (fun e => ?_)
              · walk_at "g"
                exact ⟨_, rfl, rfl⟩
              · walk_at "g"
                exact ⟨_, rfl, rfl⟩
            · rintro σ H5 ⟨cell, rfl, rfl⟩
              walk_at "g"
              refine ⟨_, _, rfl, by omega, by omega, ?_⟩
              walk_at "g"
              exact ⟨rest, _, _, xs ++ [mix cell (0 + i) % 60], by omega, rfl, Gx.Same.put s4 E3.fresh, upd_same, by simp [l4], d4.snoc (by omega) (by omega)⟩
        · rintro σ H4 ⟨rest, y, z, xs, h2, rfl, s4, e4, l4, d4⟩
          walk_at "g"
          exact q H4 p xs s4 E3.fresh e4 (by omega) d4
end
end K03
namespace K03
open PySem PySem.Spec PyProof.Rows L2
local macro_rules | `(tactic| walk_at "con") => `(tactic| first | with_reducible refine Gx.conE K03.ks0 ?_ | with_reducible refine Gx.conE K03.ks1 ?_ | with_reducible refine Gx.conE K03.ks2 ?_ | with_reducible refine Gx.conE K03.ks3 ?_ | with_reducible refine Gx.conE K03.ks4 ?_ | with_reducible refine Gx.conE K03.ks5 ?_ | with_reducible refine Gx.conE K03.ks6 ?_ | with_reducible refine Gx.conE K03.ks7 ?_ | with_reducible refine Gx.conE K03.ks8 ?_ | with_reducible refine Gx.conE K03.ks9 ?_ | with_reducible refine Gx.conE K03.ks10 ?_ | with_reducible refine Gx.conE K03.ks11 ?_ | with_reducible refine Gx.conE K03.ks12 ?_ | with_reducible refine Gx.conE K03.ks13 ?_ | with_reducible refine Gx.conE K03.ks14 ?_ | with_reducible refine Gx.conE K03.ks15 ?_)
section
variable {P : Program} {w : World} {K : PySem.W.Frag} {mg : Str → Option Value} {base : Heap}

/-- the promise of _law_kind, to a depth below n -/
def spK (K : PySem.W.Frag) : Nat → Sp
  | 0 => fun _ _ _ _ => False
  | n + 1 => fun vs H Q _ => ∃ (x : V) (d : PyData), vs = [x] ∧ Dp K H x d ∧ Gx.okD d = true ∧ PyData.depth d ≤ n ∧ ∀ H' y, Same H H' → Dp K H' y (Gx.kindD d) → Q y H'
theorem G__law_kind (T : Txt K mg w) : ∀ n, FnOk P w K mg base CX0 n T.f__law_kind T.fd__law_kind ["value"] (spK K n)
  | 0 => ⟨fun _ _ _ _ h => h.elim, fun _ _ _ _ _ _ _ _ _ _ _ _ _ h => h.elim⟩
  | n + 1 => by
    have G__law_kind := G__law_kind T n
    refine T.F__law_kind.ok sc__law_kind (fun vs H Q E h => ?_) (fun cdv A outer s H vs Q E hr h => ?_)
    · obtain ⟨x, d, rfl, _⟩ := h
      rfl
    · obtain ⟨x, d, rfl, hx, ok, dp, q⟩ := h
      refine ⟨_, ((pss_cons (ps_if (pt_cmpR Gx.op_isNG (pv 0) pe_non (nomark _))
  (pss_one (ps_ret (pe_tup (pa_cons pe_str pa_nil))))
  pss_nil)
  (pss_cons (ps_if (pt_val (pe_callB call_isi (by rfl) T.z_isinstance bt_isinstance (pa_cons (pv 0) (pa_cons (pe_bltn (v := .ty "bool") rfl T.z_bool bt_bool rfl) pa_nil))))
  (pss_one (ps_ret (pe_tup (pa_cons pe_str (pa_cons (pe_callTy Gx.cr_strB (by rfl) T.z_str bt_str (pa_cons (pv 0) pa_nil)) pa_nil)))))
  pss_nil)
  (pss_cons (ps_if (pt_val (pe_callB call_isi (by rfl) T.z_isinstance bt_isinstance (pa_cons (pv 0) (pa_cons (pe_bltn (v := .ty "int") rfl T.z_int bt_int rfl) pa_nil))))
  (pss_one (ps_ret (pe_tup (pa_cons pe_str (pa_cons (pv 0) pa_nil)))))
  pss_nil)
  (pss_cons (ps_if (pt_val (pe_callB call_isi (by rfl) T.z_isinstance bt_isinstance (pa_cons (pv 0) (pa_cons (pe_bltn (v := .ty "str") rfl T.z_str bt_str rfl) pa_nil))))
  (pss_one (ps_ret (pe_tup (pa_cons pe_str (pa_cons (pv 0) pa_nil)))))
  pss_nil)
  (pss_cons (ps_if (pt_val (pe_callB call_isi (by rfl) T.z_isinstance bt_isinstance (pa_cons (pv 0) (pa_cons (pe_bltn (v := .ty "list") rfl T.z_list bt_list rfl) pa_nil))))
  (pss_one (ps_ret (pe_op op_catT (pe_tup (pa_cons pe_str pa_nil)) (pe_callTy Gx.cr_tupL (by rfl) T.z_tuple bt_tuple (pa_cons (pe_lc (own := [("item", 1)]) (g := gName 1) (tt := tYes) (by rfl) sc__law_kind.nd (pi_list (pv 0)) (blkOk_by (N := ["value", "item"]) (sc := defScope s__law_kind) (by decide +kernel)) (fun _ _ _ _ _ => (pg_name (i := 1) sc__law_kind.nd rfl (Or.inl rfl))) (fun _ _ _ _ _ => pts_nil) (fun _ _ _ _ _ => (pe_call G__law_kind (hr.mono (by first | decide | omega)) (by rfl) T.g__law_kind T.F__law_kind.kp T.b__law_kind .nil pass0 (pa_cons (pv 1) pa_nil)))) pa_nil)))))
  pss_nil)
  (pss_cons (ps_if (pt_val (pe_callB call_isi (by rfl) T.z_isinstance bt_isinstance (pa_cons (pv 0) (pa_cons (pe_bltn (v := .ty "tuple") rfl T.z_tuple bt_tuple rfl) pa_nil))))
  (pss_one (ps_ret (pe_op op_catT (pe_tup (pa_cons pe_str pa_nil)) (pe_callTy Gx.cr_tupL (by rfl) T.z_tuple bt_tuple (pa_cons (pe_lc (own := [("item", 1)]) (g := gName 1) (tt := tYes) (by rfl) sc__law_kind.nd (pi_tup (pv 0)) (blkOk_by (N := ["value", "item"]) (sc := defScope s__law_kind) (by decide +kernel)) (fun _ _ _ _ _ => (pg_name (i := 1) sc__law_kind.nd rfl (Or.inl rfl))) (fun _ _ _ _ _ => pts_nil) (fun _ _ _ _ _ => (pe_call G__law_kind (hr.mono (by first | decide | omega)) (by rfl) T.g__law_kind T.F__law_kind.kp T.b__law_kind .nil pass0 (pa_cons (pv 1) pa_nil)))) pa_nil)))))
  pss_nil)
  (pss_one (ps_ret (pe_tup (pa_cons pe_str pa_nil))))))))))), ?_⟩
      rw [st__law_kind]
      try dsimp only [cxOf]
      cases d with
      | none =>
        cases hx
        walk_at "g"
        refine ⟨Gx.line (by decide), fun p np => ?_⟩
        have E6 := Gx.ext1 (o := .tup [.str (Gx.mkS [110, 111, 110, 101])]) np
        exact q _ _ E6.same (.tup (SqT.of upd_same) (.cons (.str _) .nil))
      | bool b =>
        cases hx
        walk_at "g"
        refine ⟨Gx.line (by show 2 ≤ 16777216; decide), fun p np => ?_⟩
        exact q _ _ (Gx.ext1 np).same (.tup (SqT.of upd_same) (.cons (.str _) (.cons (.str _) .nil)))
      | int i =>
        cases hx
        walk_at "g"
        refine ⟨Gx.line (by show 2 ≤ 16777216; decide), fun p np => ?_⟩
        exact q _ _ (Gx.ext1 np).same (.tup (SqT.of upd_same) (.cons (.str _) (.cons (.int _) .nil)))
      | str z =>
        cases hx
        walk_at "g"
        refine ⟨Gx.line (by show 2 ≤ 16777216; decide), fun p np => ?_⟩
        exact q _ _ (Gx.ext1 np).same (.tup (SqT.of upd_same) (.cons (.str _) (.cons (.str _) .nil)))
      | list ds =>
        cases hx with
        | @lst a xs _ hs ha =>
          have ok' : ds.length ≤ 100000 ∧ Gx.okDs ds = true := by simpa [Gx.okD] using ok
          have hl := Gx.dpAll_len ha
          rw [PyData.depth] at dp
          walk_at "g"
          refine ⟨Gx.line (by decide), fun p np => ?_⟩
          have E1 := Gx.ext1 (o := .tup [.str (Gx.mkS [108, 105, 115, 116])]) np
          generalize upd H p (.tup [.str (Gx.mkS [108, 105, 115, 116])]) = H1 at E1 ⊢
          have hs1 := E1.same.seq hs
          walk_at "g"
          refine ⟨⟨_, hs1⟩, fun D nD => lc_list (K := K) (a := a) (xs := xs) (fun i H2 => Same H1 H2 ∧ ∃ ys, H2 D = some (.lst ys) ∧ DpAll K H2 ys (Gx.kindAll (ds.take i)))
            ⟨Gx.Same.put (Same.refl H1) nD, [], upd_same, by rw [List.take_zero]; exact .nil⟩ (fun i H2 _ ⟨s2, _⟩ => s2.seq hs1) ?_ ?_⟩
          · rintro i x H2 hi ⟨s2, ys, e2, d2⟩
            obtain ⟨d, hd, dx⟩ := Gx.dpAll_get (Gx.dpAll_same (E1.same.trans s2) ds _ ha) hi
            obtain ⟨m, rfl⟩ : ∃ m, n = m + 1 := ⟨n - 1, by omega⟩
            have hil : i < ds.length := (List.getElem?_eq_some_iff.mp hd).1
            walk_at "g"
            refine ⟨rfl, ?_⟩
            walk_at "g"
            refine ⟨x, d, rfl, dx, Gx.okDs_get ok'.2 hd, by have := Gx.depth_get hd; omega, fun H3 y s3 dy => ?_⟩
            refine ⟨ys, s3 _ _ e2, Gx.lineL (by rw [Gx.dpAll_len d2, Gx.kindAll_len, List.length_take]; omega), Gx.Same.put (s2.trans s3) nD, ys ++ [y], upd_same, ?_⟩
            rw [List.take_add_one, hd, Option.toList_some, Gx.kindAll_app]
            refine Gx.dpAll_app (Gx.dpAll_tups (Gx.Tups.upd (s3 _ _ e2)) _ _ (Gx.noLs_kind _) (Gx.dpAll_same s3 _ _ d2)) (.cons (Gx.dp_tups (Gx.Tups.upd (s3 _ _ e2)) _ _ (Gx.noL_kind d) dy) .nil)
          · rintro H2 ⟨s2, ys, e2, d2⟩
            rw [hl, List.take_length] at d2
            walk_at "g"
            refine Gx.tupL (SqL.of e2) (fun t nt => ?_)
            have E3 := Gx.ext1 (o := .tup ys) nt
            generalize upd H2 t (.tup ys) = H3 at E3 ⊢
            walk_at "g"
            refine Gx.catT' (SqT.of (E3.same _ _ (s2 _ _ E1.at_))) (SqT.of E3.at_) (by simp) (by rw [Gx.dpAll_len d2, Gx.kindAll_len]; show 1 + _ ≤ _; omega) (fun r H4 s4 hr => ?_)
            exact q _ _ (((E1.same.trans s2).trans E3.same).trans s4) (.tup hr (.cons (.str _) (Gx.dpAll_same (E3.same.trans s4) _ _ d2)))
      | tuple ds =>
        cases hx with
        | @tup a xs _ hs ha =>
          have ok' : ds.length ≤ 100000 ∧ Gx.okDs ds = true := by simpa [Gx.okD] using ok
          have hl := Gx.dpAll_len ha
          rw [PyData.depth] at dp
          walk_at "g"
          refine ⟨Gx.line (by decide), fun p np => ?_⟩
          have E1 := Gx.ext1 (o := .tup [.str (Gx.mkS [116, 117, 112, 108, 101])]) np
          generalize upd H p (.tup [.str (Gx.mkS [116, 117, 112, 108, 101])]) = H1 at E1 ⊢
          have hs1 := E1.same.seqT hs
          walk_at "g"
          refine ⟨⟨_, hs1⟩, fun D nD => lc_tup (K := K) (a := a) (xs := xs) (fun i H2 => Same H1 H2 ∧ ∃ ys, H2 D = some (.lst ys) ∧ DpAll K H2 ys (Gx.kindAll (ds.take i)))
            ⟨Gx.Same.put (Same.refl H1) nD, [], upd_same, by rw [List.take_zero]; exact .nil⟩ (fun i H2 _ ⟨s2, _⟩ => s2.seqT hs1) ?_ ?_⟩
          · rintro i x H2 hi ⟨s2, ys, e2, d2⟩
            obtain ⟨d, hd, dx⟩ := Gx.dpAll_get (Gx.dpAll_same (E1.same.trans s2) ds _ ha) hi
            obtain ⟨m, rfl⟩ : ∃ m, n = m + 1 := ⟨n - 1, by omega⟩
            have hil : i < ds.length := (List.getElem?_eq_some_iff.mp hd).1
            walk_at "g"
            refine ⟨rfl, ?_⟩
            walk_at "g"
            refine ⟨x, d, rfl, dx, Gx.okDs_get ok'.2 hd, by have := Gx.depth_get hd; omega, fun H3 y s3 dy => ?_⟩
            refine ⟨ys, s3 _ _ e2, Gx.lineL (by rw [Gx.dpAll_len d2, Gx.kindAll_len, List.length_take]; omega), Gx.Same.put (s2.trans s3) nD, ys ++ [y], upd_same, ?_⟩
            rw [List.take_add_one, hd, Option.toList_some, Gx.kindAll_app]
            refine Gx.dpAll_app (Gx.dpAll_tups (Gx.Tups.upd (s3 _ _ e2)) _ _ (Gx.noLs_kind _) (Gx.dpAll_same s3 _ _ d2)) (.cons (Gx.dp_tups (Gx.Tups.upd (s3 _ _ e2)) _ _ (Gx.noL_kind d) dy) .nil)
          · rintro H2 ⟨s2, ys, e2, d2⟩
            rw [hl, List.take_length] at d2
            walk_at "g"
            refine Gx.tupL (SqL.of e2) (fun t nt => ?_)
            have E3 := Gx.ext1 (o := .tup ys) nt
            generalize upd H2 t (.tup ys) = H3 at E3 ⊢
            walk_at "g"
            refine Gx.catT' (SqT.of (E3.same _ _ (s2 _ _ E1.at_))) (SqT.of E3.at_) (by simp) (by rw [Gx.dpAll_len d2, Gx.kindAll_len]; show 1 + _ ≤ _; omega) (fun r H4 s4 hr => ?_)
            exact q _ _ (((E1.same.trans s2).trans E3.same).trans s4) (.tup hr (.cons (.str _) (Gx.dpAll_same (E3.same.trans s4) _ _ d2)))
      | dict _ => cases hx
def sp_same (K : PySem.W.Frag) : Sp := fun vs H Q _ => ∃ (x y : V) (d : PyData), vs = [x, y] ∧ Dp K H x d ∧ Dp K H y d ∧ Gx.okD d = true ∧ PyData.depth d ≤ 20 ∧ ∀ H', Same H H' → Q (.bl true) H'
theorem G__law_same (T : Txt K mg w) : FnOk P w K mg base CX0 22 T.f__law_same T.fd__law_same ["answer", "due"] (sp_same K) := by
  have G__law_kind := G__law_kind (P := P) (w := w) (base := base) T 21
  refine T.F__law_same.ok sc__law_same (fun vs H Q E h => ?_) (fun cdv A outer s H vs Q E hr h => ?_)
  · obtain ⟨x, y, d, rfl, _⟩ := h
    rfl
  · obtain ⟨x, y, d, rfl, hx, hy, ok, dp, q⟩ := h
    refine ⟨_, ((pss_one (ps_ret (pe_cmpR (op_eqD hr.units) (pe_call G__law_kind (hr.mono (by first | decide | omega)) (by rfl) T.g__law_kind T.F__law_kind.kp T.b__law_kind .nil pass0 (pa_cons (pv 0) pa_nil)) (pe_call G__law_kind (hr.mono (by first | decide | omega)) (by rfl) T.g__law_kind T.F__law_kind.kp T.b__law_kind .nil pass0 (pa_cons (pv 1) pa_nil)) (nomark _))))), ?_⟩
    rw [st__law_same]
    try dsimp only [cxOf]
    walk_at "g"
    refine ⟨x, d, rfl, hx, ok, dp, fun H1 u s1 du => ?_⟩
    walk_at "g"
    refine ⟨y, d, rfl, Gx.dp_same s1 d _ hy, ok, dp, fun H2 v s2 dv => ?_⟩
    refine ⟨_, _, Gx.dp_same s2 _ _ du, dv, Gx.shaped_kind ok (by omega), Gx.shaped_kind ok (by omega), ?_⟩
    rw [Gx.eqv_kind ok]
    exact q H2 (s1.trans s2)
end
end K03
namespace K03
open PySem PySem.Spec PyProof.Rows L2
local macro_rules | `(tactic| walk_at "con") => `(tactic| first | with_reducible refine Gx.conE K03.ks0 ?_ | with_reducible refine Gx.conE K03.ks1 ?_ | with_reducible refine Gx.conE K03.ks2 ?_ | with_reducible refine Gx.conE K03.ks3 ?_ | with_reducible refine Gx.conE K03.ks4 ?_ | with_reducible refine Gx.conE K03.ks5 ?_ | with_reducible refine Gx.conE K03.ks6 ?_ | with_reducible refine Gx.conE K03.ks7 ?_ | with_reducible refine Gx.conE K03.ks8 ?_ | with_reducible refine Gx.conE K03.ks9 ?_ | with_reducible refine Gx.conE K03.ks10 ?_ | with_reducible refine Gx.conE K03.ks11 ?_ | with_reducible refine Gx.conE K03.ks12 ?_ | with_reducible refine Gx.conE K03.ks13 ?_ | with_reducible refine Gx.conE K03.ks14 ?_ | with_reducible refine Gx.conE K03.ks15 ?_)
section
variable {P : Program} {w : World} {K : PySem.W.Frag} {mg : Str → Option Value} {base : Heap}
/-! ### signs and renamings, in plain Lean -/
def sgs : List Nat := [58, 59, 97, 98, 99]
/-- the sign at a place -/
def sg (n : Nat) : Nat := [58, 59, 97, 98, 99].getD n 0
theorem plc_sg {n : Nat} (h : n < 5) : plc (sg n) = some n := by
  match n, h with
  | 0, _ => rfl
  | 1, _ => rfl
  | 2, _ => rfl
  | 3, _ => rfl
  | 4, _ => rfl
theorem sg_plc {c k : Nat} (h : plc c = some k) : sg k = c := by
  unfold plc at h
  repeat' split at h
  all_goals first | (cases h; rename_i e; subst e; rfl) | cases h
theorem plc_mem {c : Nat} : (plc c).isSome = true ↔ c ∈ sgs := by
  unfold plc sgs
  constructor
  · intro h
    repeat' split at h
    all_goals first | (rename_i e; subst e; decide) | cases h
  · intro h
    simp only [List.mem_cons, List.not_mem_nil, or_false] at h
    rcases h with rfl | rfl | rfl | rfl | rfl <;> rfl
theorem sg_mem {k : Nat} (h : k < 5) : sg k ∈ sgs := by
  match k, h with
  | 0, _ => decide
  | 1, _ => decide
  | 2, _ => decide
  | 3, _ => decide
  | 4, _ => decide
theorem sg_inj {j k : Nat} (hj : j < 5) (hk : k < 5) (e : sg j = sg k) : j = k := by
  have h1 := plc_sg hj
  rw [e, plc_sg hk] at h1
  exact (Option.some.inj h1).symm
/-- a text of signs -/
def Sg (l : List Nat) : Prop := ∀ c ∈ l, c ∈ sgs
theorem Sg.cp {l : List Nat} (h : Sg l) : Gx.Cp l := fun c hc => by
  have := h c hc
  unfold sgs at this
  simp only [List.mem_cons, List.not_mem_nil, or_false] at this
  omega
theorem Sg.app {a b : List Nat} (h : Sg a) (g : Sg b) : Sg (a ++ b) := fun c hc => (List.mem_append.mp hc).elim (h c) (g c)
theorem Sg.take {a : List Nat} (h : Sg a) (n : Nat) : Sg (a.take n) := fun c hc => h c (List.mem_of_mem_take hc)
theorem Sg.drop {a : List Nat} (h : Sg a) (n : Nat) : Sg (a.drop n) := fun c hc => h c (List.mem_of_mem_drop hc)
theorem Sg.isP {l : List Nat} (h : Sg l) : ∀ c ∈ l, (plc c).isSome = true := fun c hc => plc_mem.mpr (h c hc)
/-- a renaming -/
def Ren (to : List Nat) : Prop := to.Perm sgs
theorem Ren.len {to : List Nat} (h : Ren to) : to.length = 5 := h.length_eq
theorem Ren.nodup {to : List Nat} (h : Ren to) : to.Nodup := h.nodup_iff.mpr (by decide)
theorem Ren.toSg {to : List Nat} (h : Ren to) : Sg to := fun c hc => h.mem_iff.mp hc
theorem Ren.idx {to : List Nat} (h : Ren to) {c : Nat} (hc : c ∈ sgs) : to.idxOf c < 5 := by
  have := List.idxOf_lt_length_of_mem (h.mem_iff.mpr hc)
  rwa [h.len] at this
theorem Ren.at_idx {to : List Nat} (h : Ren to) {c : Nat} (hc : c ∈ sgs) : to.getD (to.idxOf c) 0 = c := by
  have hl := List.idxOf_lt_length_of_mem (h.mem_iff.mpr hc)
  rw [List.getD_eq_getElem?_getD, List.getElem?_eq_getElem hl, Option.getD_some]
  exact List.getElem_idxOf hl
theorem Ren.idx_at {to : List Nat} (h : Ren to) {k : Nat} (hk : k < 5) : to.idxOf (to.getD k 0) = k := by
  have hl : k < to.length := by rw [h.len]; exact hk
  rw [List.getD_eq_getElem?_getD, List.getElem?_eq_getElem hl, Option.getD_some]
  exact h.nodup.idxOf_getElem k hl
theorem Ren.get_mem {to : List Nat} (h : Ren to) {k : Nat} (hk : k < 5) : to.getD k 0 ∈ sgs := by
  have hl : k < to.length := by rw [h.len]; exact hk
  rw [List.getD_eq_getElem?_getD, List.getElem?_eq_getElem hl, Option.getD_some]
  exact h.toSg _ (List.getElem_mem hl)
def ren1 (to : List Nat) (c : Nat) : Nat := to.getD ((plc c).getD 0) 0
def ren (to l : List Nat) : List Nat := l.map (ren1 to)
theorem Ren.mem1 {to : List Nat} (h : Ren to) (c : Nat) : ren1 to c ∈ sgs := by
  unfold ren1
  refine h.get_mem ?_
  cases e : plc c with
  | none => exact Nat.zero_lt_succ _
  | some k => exact plc_lt e
theorem Ren.sgOf {to : List Nat} (h : Ren to) (l : List Nat) : Sg (ren to l) := fun c hc => by
  obtain ⟨x, _, rfl⟩ := List.mem_map.mp hc
  exact h.mem1 x
theorem Ren.inj {to : List Nat} (h : Ren to) {c d : Nat} (hc : c ∈ sgs) (hd : d ∈ sgs) (e : ren1 to c = ren1 to d) : c = d := by
  cases e1 : plc c with
  | none => have := plc_mem.mpr hc; rw [e1] at this; cases this
  | some k =>
    cases e2 : plc d with
    | none => have := plc_mem.mpr hd; rw [e2] at this; cases this
    | some j =>
      unfold ren1 at e
      rw [e1, e2, Option.getD_some, Option.getD_some] at e
      have := congrArg to.idxOf e
      rw [h.idx_at (plc_lt e1), h.idx_at (plc_lt e2)] at this
      subst this
      rw [← sg_plc e1, ← sg_plc e2]
def back (to : List Nat) : List Nat := sgs.map fun c => sg (to.idxOf c)
theorem Ren.back_ren {to : List Nat} (h : Ren to) {l : List Nat} (hl : Sg l) : ren (back to) (ren to l) = l := by
  unfold ren
  rw [List.map_map]
  refine (List.map_congr_left fun c hc => ?_).trans (List.map_id l)
  have hc := hl c hc
  show ren1 (back to) (ren1 to c) = c
  have h1 := h.mem1 c
  cases e1 : plc c with
  | none => have := plc_mem.mpr hc; rw [e1] at this; cases this
  | some k =>
    cases e2 : plc (ren1 to c) with
    | none => have := plc_mem.mpr h1; rw [e2] at this; cases this
    | some j =>
      have hj := plc_lt e2
      have e3 := sg_plc e2
      unfold ren1
      rw [show (plc (to.getD ((plc c).getD 0) 0)) = some j from e2, Option.getD_some]
      unfold back sgs
      have e4 : sg (to.idxOf (sg j)) = c := by
        rw [e3]
        unfold ren1
        rw [e1, Option.getD_some, h.idx_at (plc_lt e1)]
        exact sg_plc e1
      match j, hj, e4 with
      | 0, _, e4 => exact e4
      | 1, _, e4 => exact e4
      | 2, _, e4 => exact e4
      | 3, _, e4 => exact e4
      | 4, _, e4 => exact e4
theorem Ren.ofBack {to : List Nat} (h : Ren to) : Ren (back to) := by
  refine (List.perm_ext_iff_of_nodup ?_ (by decide)).mpr fun c => ?_
  · unfold back
    refine List.pairwise_map.mpr (List.Pairwise.imp_of_mem (fun {x y} hx hy hne e => hne ?_) (show sgs.Nodup by decide))
    have := sg_inj (h.idx hx) (h.idx hy) e
    rw [← h.at_idx hx, ← h.at_idx hy, this]
  · constructor
    · intro hc
      obtain ⟨x, hx, rfl⟩ := List.mem_map.mp hc
      exact sg_mem (h.idx hx)
    · intro hc
      cases e : plc c with
      | none => have := plc_mem.mpr hc; rw [e] at this; cases this
      | some k =>
        refine List.mem_map.mpr ⟨to.getD k 0, h.get_mem (plc_lt e), ?_⟩
        rw [h.idx_at (plc_lt e)]
        exact sg_plc e
theorem flat_one {α : Type} (f : α → Nat) : ∀ l : List α, (l.map fun c => [f c]).flatten = l.map f
  | [] => rfl
  | c :: l => by rw [List.map_cons, List.flatten_cons, flat_one f l]; rfl
/-- the place of a sign in a text -/
theorem occ_sg {c k : Nat} (h : plc c = some k) : Builtin.Str.occurrences (Gx.mkS [58, 59, 97, 98, 99]) (Gx.mkS [c]) 0 (Gx.mkS [58, 59, 97, 98, 99]).length 1 = [k] := by
  unfold plc at h
  repeat' split at h
  all_goals first | (cases h; rename_i e; subst e; decide +kernel) | cases h
theorem occ_five : ∀ a ∈ sgs, ∀ b ∈ sgs, ∀ c ∈ sgs, ∀ d ∈ sgs, ∀ e ∈ sgs, [a, b, c, d, e].Nodup → ∀ x ∈ sgs, Builtin.Str.occurrences (Gx.mkS [a, b, c, d, e]) (Gx.mkS [x]) 0 5 1 = [[a, b, c, d, e].idxOf x] := by
  decide +kernel
theorem occ_to {to : List Nat} (h : Ren to) {c : Nat} (hc : c ∈ sgs) : Builtin.Str.occurrences (Gx.mkS to) (Gx.mkS [c]) 0 (Gx.mkS to).length 1 = [to.idxOf c] := by
  have hl := h.len
  have hs := h.toSg
  have hn := h.nodup
  rw [Gx.mkS_len, hl]
  match to, hl, hs, hn with
  | [x1, x2, x3, x4, x5], _, hs, hn => exact occ_five x1 (hs _ (by simp)) x2 (hs _ (by simp)) x3 (hs _ (by simp)) x4 (hs _ (by simp)) x5 (hs _ (by simp)) hn c hc
/-! lists of signs as data -/
def strsD (l : List Nat) : PyData := .list (l.map fun c => .str (Gx.mkS [c]))
theorem dp_signs {H : Hp} : ∀ l : List Nat, DpAll K H (Gx.signV l) (l.map fun c => .str (Gx.mkS [c]))
  | [] => .nil
  | c :: l => .cons (.str _) (dp_signs l)
theorem eqv_signsA : ∀ l l' : List Nat, PyData.eqvAll (l.map fun c => PyData.str (Gx.mkS [c])) (l'.map fun c => PyData.str (Gx.mkS [c])) = decide (l = l')
  | [], [] => by simp [PyData.eqvAll]
  | [], _ :: _ => by simp [PyData.eqvAll]
  | _ :: _, [] => by simp [PyData.eqvAll]
  | x :: l, y :: l' => by
    rw [List.map_cons, List.map_cons, PyData.eqvAll, PyData.eqv, eqv_signsA l l']
    have hs : (Gx.mkS [x] == Gx.mkS [y]) = decide (x = y) := by
      rw [show (Gx.mkS [x] == Gx.mkS [y]) = decide (Gx.mkS [x] = Gx.mkS [y]) from rfl]
      exact decide_eq_decide.mpr (by rw [Gx.mkS_inj]; simp)
    rw [hs]
    by_cases e : x = y
    · subst e
      simp
    · simp [e]
theorem eqv_signs (l l' : List Nat) : PyData.eqv (strsD l) (strsD l') = decide (l = l') := by
  unfold strsD
  rw [PyData.eqv]
  exact eqv_signsA l l'
theorem can_signs : ∀ l : List Nat, Gx.Cp l → PyData.canLayAll0 (l.map fun c => PyData.str (Gx.mkS [c])) = true
  | [], _ => rfl
  | c :: l, h => by
    rw [List.map_cons, PyData.canLayAll0, can_signs l fun x hx => h x (List.mem_cons_of_mem _ hx), PyData.canLay0]
    have : PyData.strOk (Gx.mkS [c]) = true := Gx.Cp.ok fun x hx => h x (by rw [List.mem_singleton.mp hx]; exact List.mem_cons_self)
    rw [this]
    rfl
theorem dep_signs : ∀ l : List Nat, PyData.depthAll (l.map fun c => PyData.str (Gx.mkS [c])) = 0
  | [] => by simp [PyData.depthAll]
  | c :: l => by rw [List.map_cons, PyData.depthAll, dep_signs l, PyData.depth]; rfl
theorem shaped_signs {l : List Nat} (h : Gx.Cp l) : SeqAt.shaped (strsD l) = true := by
  unfold SeqAt.shaped strsD
  rw [PyData.canLay0, can_signs l h, Bool.true_and]
  refine decide_eq_true ?_
  rw [PyData.depth, dep_signs]
  omega
theorem sgs_cp : Gx.Cp sgs := fun c hc => by
  unfold sgs at hc
  simp only [List.mem_cons, List.not_mem_nil, or_false] at hc
  omega
/-! ### the walks -/
/-- no text -/
def NoStr (K : PySem.W.Frag) (H : Hp) (x : V) : Prop := ∃ t, TyX K H x t ∧ PySem.W.kitOne K t (.type "str") = some false
def sp_istext (K : PySem.W.Frag) : Sp := fun vs H Q _ => (∃ l, vs = [.str (Gx.mkS l)] ∧ Q (.bl (l.all fun c => (plc c).isSome)) H) ∨ ∃ x, vs = [x] ∧ NoStr K H x ∧ Q (.bl false) H
theorem G_is_text (T : Txt K mg w) : FnOk P w K mg base CX0 1 T.f_is_text T.fd_is_text ["value"] (sp_istext K) := by
  refine T.F_is_text.ok sc_is_text (fun vs H Q E h => ?_) (fun cdv A outer s H vs Q E hr h => ?_)
  · rcases h with ⟨l, rfl, _⟩ | ⟨x, rfl, _⟩ <;> rfl
  · refine ⟨_, ((pss_cons (ps_if (pt_not (pt_val (pe_callB call_isi (by rfl) T.z_isinstance bt_isinstance (pa_cons (pv 0) (pa_cons (pe_bltn (v := .ty "str") rfl T.z_str bt_str rfl) pa_nil)))))
  (pss_one (ps_ret pe_bl))
  pss_nil)
  (pss_cons (ps_for PassesOwn.never rfl (pi_str (pv 0)) (pg_name (i := 1) sc_is_text.nd rfl (Or.inl rfl))
  (pss_one (ps_if (pt_cmpR (Gx.op_notInK T.kd_PLACES) (pv 1) (pe_glob (v := .ref T.a_PLACES) rfl T.g_PLACES rfl) rfl)
  (pss_one (ps_ret pe_bl))
  pss_nil)))
  (pss_one (ps_ret pe_bl))))), ?_⟩
    rcases h with ⟨l, rfl, q⟩ | ⟨x, rfl, ⟨t, ty, kt⟩, q⟩
    · rw [st_is_text]
      try dsimp only [cxOf]
      walk_at "g"
      refine Gx.for_str (fun i σ H' => H' = H ∧ ∃ y : Option V, (l.take i).all (fun c => (plc c).isSome) = true ∧ σ = [some (.str (Gx.mkS l)), y]) ⟨rfl, none, by simp, rfl⟩ ?_ ?_
      · rintro i c σ H' hc ⟨rfl, y, hy, rfl⟩
        walk_at "g"
        rw [getS_plc]
        cases hp : plc c with
        | none =>
          rw [if_pos (by rfl)]
          walk_at "g"
          rw [show (l.all fun c => (plc c).isSome) = false from ?_] at q
          · exact q
          · rw [List.all_eq_false]
            exact ⟨c, List.mem_of_getElem? hc, by rw [hp]; decide⟩
        | some k =>
          rw [if_neg (by simp)]
          walk_at "g"
          refine ⟨rfl, _, ?_, rfl⟩
          rw [List.take_add_one, hc, Option.toList_some, List.all_append, hy, List.all_cons, hp]
          rfl
      · rintro σ H' ⟨rfl, y, hy, rfl⟩
        rw [List.take_length] at hy
        rw [hy] at q
        walk_at "g"
        exact q
    · rw [st_is_text]
      try dsimp only [cxOf]
      walk_at "g"
      refine Gx.isi (.ty _) ty kt ?_
      walk_at "g"
      exact q
theorem ren_iff {l l' : List Nat} (h : l'.Perm l) (hs : l'.Pairwise (· ≤ ·)) : decide (l' = sgs) = decide (l.Perm sgs) := by
  refine decide_eq_decide.mpr ⟨fun e => ?_, fun e => ?_⟩
  · subst e
    exact h.symm
  · exact List.Perm.eq_of_pairwise (fun a b _ _ h1 h2 => Nat.le_antisymm h1 h2) hs (by decide) (h.trans e)
def sp_isren (K : PySem.W.Frag) : Sp := fun vs H Q _ => ∃ l, vs = [.str (Gx.mkS l)] ∧ Gx.Cp l ∧ l.length ≤ 16777216 ∧ ∀ H', Same H H' → Q (.bl (decide (l.Perm sgs))) H'
theorem G_is_renaming (T : Txt K mg w) : FnOk P w K mg base CX0 1 T.f_is_renaming T.fd_is_renaming ["to"] (sp_isren K) := by
  refine T.F_is_renaming.ok sc_is_renaming (fun vs H Q E h => ?_) (fun cdv A outer s H vs Q E hr h => ?_)
  · obtain ⟨l, rfl, _⟩ := h
    rfl
  · obtain ⟨l, rfl, cp, hl, q⟩ := h
    refine ⟨_, ((pss_one (ps_ret (pe_and (pe_callB call_isi (by rfl) T.z_isinstance bt_isinstance (pa_cons (pv 0) (pa_cons (pe_bltn (v := .ty "str") rfl T.z_str bt_str rfl) pa_nil))) (pe_one (pe_cmpR (op_eqD hr.units) (pe_callB (Gx.cr_sortStr rfl) (by rfl) T.z_sorted bt_sorted (pa_cons (pv 0) pa_nil)) (pe_callTy (Gx.cr_listStr rfl) (by rfl) T.z_list bt_list (pa_cons (pe_glob (v := .str (Str.ofString ":;abc")) rfl T.g_SIGNS ⟨_, rfl⟩) pa_nil)) (nomark _))))))), ?_⟩
    rw [st_is_renaming]
    try dsimp only [cxOf]
    walk_at "g"
    refine Gx.sortStr hl fun l' p H1 pm pw E1 => ?_
    walk_at "g"
    refine Gx.listStr (by decide) fun p2 H2 E2 => ?_
    refine ⟨strsD l', strsD sgs, .lst (SqL.of (E2.same _ _ E1.at_)) (dp_signs _), .lst (SqL.of E2.at_) (dp_signs _), shaped_signs fun c hc => cp c (pm.mem_iff.mp hc), shaped_signs sgs_cp, ?_⟩
    rw [eqv_signs, ren_iff pm pw]
    exact q _ (E1.same.trans E2.same)
def sp_renamed (K : PySem.W.Frag) : Sp := fun vs H Q _ => ∃ l to, vs = [.str (Gx.mkS l), .str (Gx.mkS to)] ∧ Ren to ∧ Sg l ∧ l.length ≤ 1000000 ∧ ∀ H', Same H H' → Q (.str (Gx.mkS (ren to l))) H'
theorem G_renamed (T : Txt K mg w) : FnOk P w K mg base CX0 1 T.f_renamed T.fd_renamed ["text", "to"] (sp_renamed K) := by
  refine T.F_renamed.ok sc_renamed (fun vs H Q E h => ?_) (fun cdv A outer s H vs Q E hr h => ?_)
  · obtain ⟨l, to, rfl, _⟩ := h
    rfl
  · obtain ⟨l, to, rfl, ht, hl, hll, q⟩ := h
    have h5 := ht.len
    refine ⟨_, ((pss_one (ps_ret (Gx.pe_joinG pe_str (pe_lc (own := [("char", 2)]) (g := gName 2) (tt := tYes) (by rfl) sc_renamed.nd (pi_str (pv 0)) (blkOk_by (N := ["text", "to", "char"]) (sc := defScope s_renamed) (by decide +kernel)) (fun _ _ _ _ _ => (pg_name (i := 2) sc_renamed.nd rfl (Or.inl rfl))) (fun _ _ _ _ _ => pts_nil) (fun _ _ _ _ _ => (pe_ix ix_str (pv 1) (pe_ix (r := Gx.rIxK T.a_PLACES [(":", 0), (";", 1), ("a", 2), ("b", 3), ("c", 4)]) (Gx.ix_K T.kd_PLACES) (pe_glob (v := .ref T.a_PLACES) rfl T.g_PLACES rfl) (pv 2) (fun _ _ => rfl)) (fun _ _ => rfl)))))))), ?_⟩
    rw [st_renamed]
    try dsimp only [cxOf]
    walk_at "g"
    refine fun D nD => Gx.lc_str (fun i H' => Same H H' ∧ H' D = some (.lst ((((l.take i).map fun c => [ren1 to c]).map Gx.mkS).map V.str))) ⟨Gx.Same.put (Same.refl H) nD, upd_same⟩ ?_ ?_
    · rintro i c H' hc ⟨s1, e1⟩
      have hil := (List.getElem?_eq_some_iff.mp hc).1
      walk_at "g"
      refine ⟨rfl, ?_⟩
      walk_at "g"
      have hs := hl.isP c (List.mem_of_getElem? hc)
      cases hp : plc c with
      | none => rw [hp] at hs; cases hs
      | some k =>
        have hk := plc_lt hp
        refine Gx.ixK (i := (k : Nat)) (by rw [getS_plc, hp]; rfl) ?_
        walk_at "g"
        refine ⟨_, e1, Gx.lineL (by simp; omega), Gx.Same.put s1 nD, ?_⟩
        rw [upd_same, List.take_add_one, hc, Option.toList_some, List.map_append, List.map_append, List.map_append]
        unfold ren1
        simp only [List.map_cons, List.map_nil]
        rw [hp]
        rfl
    · rintro H' ⟨s1, e1⟩
      rw [List.take_length] at e1
      walk_at "g"
      refine Gx.join0 (SqL.of e1) (by rw [flat_one, List.length_map]; omega) ?_
      rw [flat_one]
      walk_at "g"
      exact q _ s1
def sp_rback (K : PySem.W.Frag) : Sp := fun vs H Q _ => ∃ to, vs = [.str (Gx.mkS to)] ∧ Ren to ∧ ∀ H', Same H H' → Q (.str (Gx.mkS (back to))) H'
theorem G_renaming_back (T : Txt K mg w) : FnOk P w K mg base CX0 1 T.f_renaming_back T.fd_renaming_back ["to"] (sp_rback K) := by
  refine T.F_renaming_back.ok sc_renaming_back (fun vs H Q E h => ?_) (fun cdv A outer s H vs Q E hr h => ?_)
  · obtain ⟨to, rfl, _⟩ := h
    rfl
  · obtain ⟨to, rfl, ht, q⟩ := h
    have h5 := ht.len
    refine ⟨_, ((pss_one (ps_ret (Gx.pe_joinG pe_str (pe_lc (own := [("sign", 1)]) (g := gName 1) (tt := tYes) (by rfl) sc_renaming_back.nd (pi_str (pe_glob (v := .str (Str.ofString ":;abc")) rfl T.g_SIGNS ⟨_, rfl⟩)) (blkOk_by (N := ["to", "sign"]) (sc := defScope s_renaming_back) (by decide +kernel)) (fun _ _ _ _ _ => (pg_name (i := 1) sc_renaming_back.nd rfl (Or.inl rfl))) (fun _ _ _ _ _ => pts_nil) (fun _ _ _ _ _ => (pe_ix ix_str (pe_glob (v := .str (Str.ofString ":;abc")) rfl T.g_SIGNS ⟨_, rfl⟩) (pe_bm PySem.F.plainAttrs_str PySem.F.slot_str_index PySem.F.type_str_index mt_sindex (pv 0) (pa_cons (pv 1) pa_nil) : PE _ _ (tBM K _ _ _ _)) (fun _ _ => rfl)))))))), ?_⟩
    rw [st_renaming_back]
    try dsimp only [cxOf]
    walk_at "g"
    refine fun D nD => Gx.lc_str (l := sgs) (fun i H' => Same H H' ∧ H' D = some (.lst ((((sgs.take i).map fun c => [sg (to.idxOf c)]).map Gx.mkS).map V.str))) ⟨Gx.Same.put (Same.refl H) nD, upd_same⟩ ?_ ?_
    · rintro i c H' hc ⟨s1, e1⟩
      have hil : i < 5 := (List.getElem?_eq_some_iff.mp hc).1
      have hm : c ∈ sgs := List.mem_of_getElem? hc
      have hx := ht.idx hm
      walk_at "g"
      refine ⟨rfl, ?_⟩
      walk_at "g"
      refine ⟨rfl, ?_⟩
      walk_at "g"
      refine ⟨_, _, to.idxOf c, [], rfl, rfl, occ_to ht hm, ?_⟩
      walk_at "g"
      refine ⟨_, e1, Gx.lineL (by simp; omega), Gx.Same.put s1 nD, ?_⟩
      rw [upd_same, List.take_add_one, hc, Option.toList_some, List.map_append, List.map_append, List.map_append]
      rfl
    · rintro H' ⟨s1, e1⟩
      walk_at "g"
      refine Gx.join0 (ls := sgs.map fun c => [sg (to.idxOf c)]) (SqL.of e1) (by rw [flat_one, List.length_map]; decide) ?_
      rw [flat_one]
      walk_at "g"
      exact q _ s1
end
end K03
namespace K03
open PySem PySem.Spec PyProof.Rows L2
local macro_rules | `(tactic| walk_at "con") => `(tactic| first | with_reducible refine Gx.conE K03.ks0 ?_ | with_reducible refine Gx.conE K03.ks1 ?_ | with_reducible refine Gx.conE K03.ks2 ?_ | with_reducible refine Gx.conE K03.ks3 ?_ | with_reducible refine Gx.conE K03.ks4 ?_ | with_reducible refine Gx.conE K03.ks5 ?_ | with_reducible refine Gx.conE K03.ks6 ?_ | with_reducible refine Gx.conE K03.ks7 ?_ | with_reducible refine Gx.conE K03.ks8 ?_ | with_reducible refine Gx.conE K03.ks9 ?_ | with_reducible refine Gx.conE K03.ks10 ?_ | with_reducible refine Gx.conE K03.ks11 ?_ | with_reducible refine Gx.conE K03.ks12 ?_ | with_reducible refine Gx.conE K03.ks13 ?_ | with_reducible refine Gx.conE K03.ks14 ?_ | with_reducible refine Gx.conE K03.ks15 ?_)
section
variable {P : Program} {w : World} {K : PySem.W.Frag} {mg : Str → Option Value} {base : Heap}
/-! ### patterns -/
inductive Pat where
  | word (l : List Nat)
  | one (l : List Nat)
  | star (p : Pat)
  | two (b : Bool) (p q : Pat)
def wordS : List Nat := [119, 111, 114, 100]
def oneS : List Nat := [111, 110, 101]
def starS : List Nat := [115, 116, 97, 114]
def seqS : List Nat := [115, 101, 113]
def altS : List Nat := [97, 108, 116]
def Pat.tag : Pat → List Nat
  | .word _ => wordS
  | .one _ => oneS
  | .star _ => starS
  | .two b _ _ => if b = true then seqS else altS
def Pat.kids : Pat → List Pat
  | .word _ => []
  | .one _ => []
  | .star p => [p]
  | .two _ p q => [p, q]
def patD : Pat → PyData
  | .word l => .tuple [.str (Gx.mkS wordS), .str (Gx.mkS l)]
  | .one l => .tuple [.str (Gx.mkS oneS), .str (Gx.mkS l)]
  | .star p => .tuple [.str (Gx.mkS starS), patD p]
  | .two b p q => .tuple [.str (Gx.mkS (if b = true then seqS else altS)), patD p, patD q]
def Pat.depth : Pat → Nat
  | .word _ => 1
  | .one _ => 1
  | .star p => p.depth + 1
  | .two _ p q => max p.depth q.depth + 1
/-- words and sets of signs; m: the greatest length of a word -/
def Pat.ok (m : Nat) : Pat → Prop
  | .word l => Sg l ∧ l.length ≤ m
  | .one l => Sg l ∧ l.Nodup ∧ l.length ≤ 5
  | .star p => p.ok m
  | .two _ p q => p.ok m ∧ q.ok m
/-- renamed -/
def Pat.rn (to : List Nat) : Pat → Pat
  | .word l => .word (ren to l)
  | .one l => .one (sgs.filter fun c => decide (c ∈ ren to l))
  | .star p => .star (p.rn to)
  | .two b p q => .two b (p.rn to) (q.rn to)
theorem Pat.node (p : Pat) : (∃ l, p = .word l) ∨ (∃ l, p = .one l) ∨ (p.tag ≠ wordS ∧ p.tag ≠ oneS ∧ patD p = .tuple (.str (Gx.mkS p.tag) :: p.kids.map patD) ∧ (∀ to, patD (p.rn to) = .tuple (.str (Gx.mkS p.tag) :: p.kids.map fun k => patD (k.rn to))) ∧
    1 ≤ p.kids.length ∧ p.kids.length ≤ 2 ∧ ∀ k ∈ p.kids, k.depth + 1 ≤ p.depth ∧ ∀ m, p.ok m → k.ok m) := by
  cases p with
  | word l => exact .inl ⟨l, rfl⟩
  | one l => exact .inr (.inl ⟨l, rfl⟩)
  | star p =>
    refine .inr (.inr ⟨by show starS ≠ wordS; decide, by show starS ≠ oneS; decide, rfl, fun _ => rfl, by show 1 ≤ 1; decide, by show 1 ≤ 2; decide, fun k hk => ?_⟩)
    obtain rfl := List.mem_singleton.mp hk
    exact ⟨Nat.le_refl _, fun _ h => h⟩
  | two b p q =>
    refine .inr (.inr ⟨?_, ?_, rfl, fun _ => rfl, by show 1 ≤ 2; decide, by show 2 ≤ 2; decide, fun k hk => ?_⟩)
    · show (if b = true then seqS else altS) ≠ wordS
      cases b <;> decide
    · show (if b = true then seqS else altS) ≠ oneS
      cases b <;> decide
    · show k.depth + 1 ≤ max p.depth q.depth + 1 ∧ _
      rcases List.mem_cons.mp hk with rfl | hk
      · exact ⟨by omega, fun _ h => h.1⟩
      · obtain rfl := List.mem_singleton.mp hk
        exact ⟨by omega, fun _ h => h.2⟩
theorem Pat.depth_pos (p : Pat) : 1 ≤ p.depth := by
  cases p <;> (unfold Pat.depth; omega)
theorem Pat.depD : ∀ p : Pat, PyData.depth (patD p) = p.depth
  | .word l => by simp [patD, PyData.depth, PyData.depthAll, Pat.depth]
  | .one l => by simp [patD, PyData.depth, PyData.depthAll, Pat.depth]
  | .star p => by
    have := Pat.depD p
    simp only [patD, PyData.depth, PyData.depthAll, Pat.depth]
    omega
  | .two b p q => by
    have h1 := Pat.depD p
    have h2 := Pat.depD q
    simp only [patD, PyData.depth, PyData.depthAll, Pat.depth]
    omega
theorem Pat.okD {m : Nat} : ∀ p : Pat, p.ok m → Gx.okD (patD p) = true
  | .word l, h => by
    have h1 : PyData.strOk (Gx.mkS wordS) = true := by decide +kernel
    have h2 : PyData.strOk (Gx.mkS l) = true := h.1.cp.ok
    simp [patD, Gx.okD, Gx.okDs, h1, h2]
  | .one l, h => by
    have h1 : PyData.strOk (Gx.mkS oneS) = true := by decide +kernel
    have h2 : PyData.strOk (Gx.mkS l) = true := h.1.cp.ok
    simp [patD, Gx.okD, Gx.okDs, h1, h2]
  | .star p, h => by
    have h1 : PyData.strOk (Gx.mkS starS) = true := by decide +kernel
    have h2 := Pat.okD p h
    simp [patD, Gx.okD, Gx.okDs, h1, h2]
  | .two b p q, h => by
    have h1 : PyData.strOk (Gx.mkS (if b = true then seqS else altS)) = true := by cases b <;> decide +kernel
    have h2 := Pat.okD p h.1
    have h3 := Pat.okD q h.2
    simp [patD, Gx.okD, Gx.okDs, h1, h2, h3]
theorem Pat.rn_depth {to : List Nat} : ∀ p : Pat, (p.rn to).depth = p.depth
  | .word l => rfl
  | .one l => rfl
  | .star p => by simp only [Pat.rn, Pat.depth, Pat.rn_depth p]
  | .two b p q => by simp only [Pat.rn, Pat.depth, Pat.rn_depth p, Pat.rn_depth q]
theorem Pat.rn_ok {to : List Nat} (h : Ren to) {m : Nat} : ∀ p : Pat, p.ok m → (p.rn to).ok m
  | .word l, k => ⟨h.sgOf l, by unfold ren; rw [List.length_map]; exact k.2⟩
  | .one l, k => by
    refine ⟨fun c hc => (List.mem_filter.mp hc).1, List.Pairwise.filter _ (show sgs.Nodup by decide), ?_⟩
    exact Nat.le_trans (List.length_filter_le _ _) (by decide)
  | .star p, k => Pat.rn_ok h p k
  | .two b p q, k => ⟨Pat.rn_ok h p k.1, Pat.rn_ok h q k.2⟩
theorem noL_pat : ∀ p : Pat, Gx.noL (patD p) = true
  | .word l => rfl
  | .one l => rfl
  | .star p => by simp only [patD, Gx.noL, Gx.noLs, noL_pat p, Bool.and_self]
  | .two b p q => by simp only [patD, Gx.noL, Gx.noLs, noL_pat p, noL_pat q, Bool.and_self]
theorem noLs_pats : ∀ ps : List Pat, Gx.noLs (ps.map patD) = true
  | [] => rfl
  | p :: ps => by rw [List.map_cons, Gx.noLs, noL_pat, noLs_pats ps]; rfl
/-- sorted, the signs of a renamed set -/
theorem sort_ren {to l l' : List Nat} (h : Ren to) (hl : Sg l) (nd : l.Nodup) (pm : l'.Perm (ren to l)) (pw : l'.Pairwise (· ≤ ·)) : l' = sgs.filter fun c => decide (c ∈ ren to l) := by
  refine List.Perm.eq_of_pairwise (fun a b _ _ h1 h2 => Nat.le_antisymm h1 h2) pw (List.Pairwise.filter _ (by decide)) ?_
  refine pm.trans ((List.perm_ext_iff_of_nodup ?_ (List.Pairwise.filter _ (show sgs.Nodup by decide))).mpr fun c => ?_)
  · unfold ren
    exact List.pairwise_map.mpr (List.Pairwise.imp_of_mem (fun {x y} hx hy hne e => hne (h.inj (hl x hx) (hl y hy) e)) nd)
  · rw [List.mem_filter, decide_eq_true_eq]
    exact ⟨fun hc => ⟨h.sgOf l c hc, hc⟩, fun hc => hc.2⟩
theorem slT {H : Hp} {Q : VK} {a : Addr} {x : V} {xs : List V} (e : SqT K H a (x :: xs)) (h : ∀ p H1, Gx.Ext1 H H1 p (.tup xs) → Q (.ref p) H1) : rSlT K (.ref a) (some 1) none H Q := by
  refine ⟨a, _, rfl, e, fun c => ?_, fun p np => ?_⟩
  · have := c.1
    rw [Gx.sIx_int _ _ (by decide)] at this
    simp at this
  · rw [Gx.cutV_B _ (by decide)]
    exact h p _ (Gx.ext1 np)
/-- the promise of renamed_pattern and of the law's own one, to a depth below n -/
def spPat (K : PySem.W.Frag) : Nat → Sp
  | 0 => fun _ _ _ _ => False
  | n + 1 => fun vs H Q _ => ∃ (x : V) (p : Pat) (to : List Nat), vs = [x, .str (Gx.mkS to)] ∧ Dp K H x (patD p) ∧ p.ok 1000 ∧ Ren to ∧ p.depth ≤ n ∧ ∀ H' y, Same H H' → Dp K H' y (patD (p.rn to)) → Q y H'
theorem G_renamed_pattern (T : Txt K mg w) : ∀ n, FnOk P w K mg base CX0 (n + 2) T.f_renamed_pattern T.fd_renamed_pattern ["pattern", "to"] (spPat K n)
  | 0 => ⟨fun _ _ _ _ h => h.elim, fun _ _ _ _ _ _ _ _ _ _ _ _ _ h => h.elim⟩
  | n + 1 => by
    have G_renamed_pattern := G_renamed_pattern T n
    have G_renamed := G_renamed (P := P) (w := w) (base := base) T
    refine T.F_renamed_pattern.ok sc_renamed_pattern (fun vs H Q E h => ?_) (fun cdv A outer s H vs Q E hr h => ?_)
    · obtain ⟨x, p, to, rfl, _⟩ := h
      rfl
    · obtain ⟨x, p, to, rfl, hx, ok, ht, dp, q⟩ := h
      refine ⟨_, ((pss_cons (ps_if (pt_cmpR op_eq (pe_ix ix_tup (pv 0) pe_int (fun _ _ => rfl)) pe_str (nomark _))
  (pss_one (ps_ret (pe_tup (pa_cons pe_str (pa_cons (pe_call G_renamed (hr.mono (by first | decide | omega)) (by rfl) T.g_renamed T.F_renamed.kp T.b_renamed .nil pass0 (pa_cons (pe_ix ix_tup (pv 0) pe_int (fun _ _ => rfl)) (pa_cons (pv 1) pa_nil))) pa_nil)))))
  pss_nil)
  (pss_cons (ps_if (pt_cmpR op_eq (pe_ix ix_tup (pv 0) pe_int (fun _ _ => rfl)) pe_str (nomark _))
  (pss_one (ps_ret (pe_tup (pa_cons pe_str (pa_cons (Gx.pe_joinG pe_str (pe_callB (Gx.cr_sortStr rfl) (by rfl) T.z_sorted bt_sorted (pa_cons (pe_call G_renamed (hr.mono (by first | decide | omega)) (by rfl) T.g_renamed T.F_renamed.kp T.b_renamed .nil pass0 (pa_cons (pe_ix ix_tup (pv 0) pe_int (fun _ _ => rfl)) (pa_cons (pv 1) pa_nil))) pa_nil))) pa_nil)))))
  pss_nil)
  (pss_one (ps_ret (pe_op op_catT (pe_tup (pa_cons (pe_ix ix_tup (pv 0) pe_int (fun _ _ => rfl)) pa_nil)) (pe_callTy Gx.cr_tupL (by rfl) T.z_tuple bt_tuple (pa_cons (pe_lc (own := [("part", 2)]) (g := gName 2) (tt := tYes) (by rfl) sc_renamed_pattern.nd (pi_tup (pe_slice sl_tup (pv 0) (po_some pe_int) po_none)) (blkOk_by (N := ["pattern", "to", "part"]) (sc := defScope s_renamed_pattern) (by decide +kernel)) (fun _ _ _ _ _ => (pg_name (i := 2) sc_renamed_pattern.nd rfl (Or.inl rfl))) (fun _ _ _ _ _ => pts_nil) (fun _ _ _ _ _ => (pe_call G_renamed_pattern (hr.mono (by first | decide | omega)) (by rfl) T.g_renamed_pattern T.F_renamed_pattern.kp T.b_renamed_pattern .nil pass0 (pa_cons (pv 2) (pa_cons (pv 1) pa_nil))))) pa_nil)))))))), ?_⟩
      clear G_renamed_pattern G_renamed
      rw [st_renamed_pattern]
      try dsimp only [cxOf]
      rcases p.node with ⟨l, rfl⟩ | ⟨l, rfl⟩ | ⟨t1, t2, e1, e2, k1, k2, hk⟩
      · rw [patD] at hx
        cases hx with
        | tup hs ha =>
          rename_i a xs
          cases ha with
          | cons a1 ha =>
            cases a1
            cases ha with
            | cons a1 ha =>
              cases a1
              cases ha
              walk_at "g"
              rw [if_pos (by decide)]
              walk_at "g"
              refine ⟨l, to, rfl, ht, ok.1, Nat.le_trans ok.2 (by decide), fun H1 s1 => ?_⟩
              refine Gx.newT (by show 2 ≤ 16777216; decide) fun p H2 E2 => ?_
              walk_at "g"
              exact q _ _ (s1.trans E2.same) (.tup (SqT.of E2.at_) (.cons (.str _) (.cons (.str _) .nil)))
      · rw [patD] at hx
        cases hx with
        | tup hs ha =>
          rename_i a xs
          cases ha with
          | cons a1 ha =>
            cases a1
            cases ha with
            | cons a1 ha =>
              cases a1
              cases ha
              walk_at "g"
              rw [if_neg (by decide)]
              walk_at "g"
              rw [if_pos (by decide)]
              walk_at "g"
              refine ⟨l, to, rfl, ht, ok.1, Nat.le_trans ok.2.2 (by decide), fun H1 s1 => ?_⟩
              walk_at "g"
              refine Gx.sortStr (by unfold ren; rw [List.length_map]; exact Nat.le_trans ok.2.2 (by decide)) fun l' p H2 pm pw E2 => ?_
              have el := sort_ren ht ok.1 ok.2.1 pm pw
              walk_at "g"
              refine Gx.join0 (ls := l'.map fun c => [c]) (p := p) (SqL.of (by rw [E2.at_]; unfold Gx.signV; rw [List.map_map, List.map_map]; rfl)) (by rw [flat_one, List.map_id', pm.length_eq]; unfold ren; rw [List.length_map]; exact Nat.le_trans ok.2.2 (by decide)) ?_
              rw [flat_one, List.map_id', el]
              refine Gx.newT (by show 2 ≤ 16777216; decide) fun p2 H3 E3 => ?_
              walk_at "g"
              exact q _ _ ((s1.trans E2.same).trans E3.same) (.tup (SqT.of E3.at_) (.cons (.str _) (.cons (.str _) .nil)))
      · rw [e1] at hx
        cases hx with
        | tup hs ha =>
          rename_i a xs
          cases ha with
          | cons a1 ha =>
            cases a1
            rename_i ys
            have hyl := Gx.dpAll_len ha
            rw [List.length_map] at hyl
            walk_at "g"
            refine Gx.ixT hs (Gx.atI_of (k := 0) rfl rfl) ?_
            walk_at "g"
            rw [if_neg (by rw [decide_eq_true_eq]; exact t1)]
            walk_at "g"
            refine Gx.ixT hs (Gx.atI_of (k := 0) rfl rfl) ?_
            walk_at "g"
            rw [if_neg (by rw [decide_eq_true_eq]; exact t2)]
            walk_at "g"
            refine Gx.ixT hs (Gx.atI_of (k := 0) rfl rfl) ?_
            walk_at "g"
            refine Gx.newT (by show 1 ≤ 16777216; decide) fun p1 H1 E1 => ?_
            have hs1 := E1.same.seqT hs
            walk_at "g"
            refine slT hs1 fun p2 H2 E2 => ?_
            have hs2 : SqT K H2 p2 ys := SqT.of E2.at_
            have s02 := E1.same.trans E2.same
            walk_at "g"
            refine ⟨⟨_, hs2⟩, fun D nD => lc_tup (K := K) (a := p2) (xs := ys) (fun i H3 => Same H2 H3 ∧ ∃ zs, H3 D = some (.lst zs) ∧ DpAll K H3 zs ((p.kids.take i).map fun k => patD (k.rn to)))
              ⟨Gx.Same.put (Same.refl H2) nD, [], upd_same, by rw [List.take_zero]; exact .nil⟩ (fun i H3 _ ⟨s3, _⟩ => s3.seqT hs2) ?_ ?_⟩
            · rintro i x H3 hi ⟨s3, zs, e3, d3⟩
              obtain ⟨d, hd, dx⟩ := Gx.dpAll_get (Gx.dpAll_same (s02.trans s3) _ _ ha) hi
              rw [List.getElem?_map] at hd
              cases hki : p.kids[i]? with
              | none => rw [hki] at hd; cases hd
              | some kd =>
                rw [hki] at hd
                obtain rfl := Option.some.inj hd
                obtain ⟨hk1, hk2⟩ := hk kd (List.mem_of_getElem? hki)
                have hil := (List.getElem?_eq_some_iff.mp hki).1
                have kpos := kd.depth_pos
                obtain ⟨m, rfl⟩ : ∃ m, n = m + 1 := ⟨n - 1, by omega⟩
                walk_at "g"
                refine ⟨rfl, ?_⟩
                walk_at "g"
                refine ⟨x, kd, to, rfl, dx, hk2 _ ok, ht, by omega, fun H4 y s4 dy => ?_⟩
                refine ⟨zs, s4 _ _ e3, Gx.lineL (by rw [Gx.dpAll_len d3, List.length_map, List.length_take]; omega), Gx.Same.put (s3.trans s4) nD, zs ++ [y], upd_same, ?_⟩
                rw [List.take_add_one, hki, Option.toList_some, List.map_append]
                refine Gx.dpAll_snoc (s4 _ _ e3) (Gx.dpAll_same s4 _ _ d3) ?_ dy (noL_pat _)
                have := noLs_pats ((p.kids.take i).map fun k => k.rn to)
                rw [List.map_map] at this
                exact this
            · rintro H3 ⟨s3, zs, e3, d3⟩
              rw [hyl, List.take_length] at d3
              have zl := Gx.dpAll_len d3
              rw [List.length_map] at zl
              walk_at "g"
              refine Gx.tupL (SqL.of e3) (fun t nt => ?_)
              have E4 := Gx.ext1 (o := .tup zs) nt
              generalize upd H3 t (.tup zs) = H4 at E4 ⊢
              walk_at "g"
              refine Gx.catT' (SqT.of (E4.same _ _ (s3 _ _ (E2.same _ _ E1.at_)))) (SqT.of E4.at_) (by simp) (by rw [zl]; show 1 + _ ≤ _; omega) (fun r H5 s5 hr => ?_)
              refine q _ _ (((s02.trans s3).trans E4.same).trans s5) ?_
              rw [e2]
              exact .tup hr (.cons (.str _) (Gx.dpAll_same (E4.same.trans s5) _ _ d3))
end
end K03
namespace K03
open PySem PySem.Spec PyProof.Rows L2
local macro_rules | `(tactic| walk_at "con") => `(tactic| first | with_reducible refine Gx.conE K03.ks0 ?_ | with_reducible refine Gx.conE K03.ks1 ?_ | with_reducible refine Gx.conE K03.ks2 ?_ | with_reducible refine Gx.conE K03.ks3 ?_ | with_reducible refine Gx.conE K03.ks4 ?_ | with_reducible refine Gx.conE K03.ks5 ?_ | with_reducible refine Gx.conE K03.ks6 ?_ | with_reducible refine Gx.conE K03.ks7 ?_ | with_reducible refine Gx.conE K03.ks8 ?_ | with_reducible refine Gx.conE K03.ks9 ?_ | with_reducible refine Gx.conE K03.ks10 ?_ | with_reducible refine Gx.conE K03.ks11 ?_ | with_reducible refine Gx.conE K03.ks12 ?_ | with_reducible refine Gx.conE K03.ks13 ?_ | with_reducible refine Gx.conE K03.ks14 ?_ | with_reducible refine Gx.conE K03.ks15 ?_)
section
variable {P : Program} {w : World} {K : PySem.W.Frag} {mg : Str → Option Value} {base : Heap}
/-- the moves by renamed signs -/
def turnR (to : List Nat) (R : List (List Nat)) : List (List Nat) := R.map fun row => (List.range 5).map fun j => row.getD (to.idxOf (sg j)) 0
theorem turnR_len {to : List Nat} {R : List (List Nat)} : (turnR to R).length = R.length := by
  unfold turnR
  rw [List.length_map]
theorem turnR_get {to : List Nat} {R : List (List Nat)} {s : Nat} (hs : s < R.length) : (turnR to R).getD s [] = (List.range 5).map fun j => (R.getD s []).getD (to.idxOf (sg j)) 0 := by
  unfold turnR
  rw [List.getD_eq_getElem?_getD, List.getElem?_map, row_get hs]
  rfl
theorem turnR_mv {to : List Nat} {R : List (List Nat)} {s j : Nat} (hs : s < R.length) (hj : j < 5) : mv (turnR to R) s j = mv R s (to.idxOf (sg j)) := by
  unfold mv
  rw [turnR_get hs, List.getD_eq_getElem?_getD, List.getElem?_map, List.getElem?_range hj]
  rfl
theorem turnR_five {to : List Nat} (h : Ren to) {R : List (List Nat)} (five : Five R) : Five (turnR to R) := by
  refine ⟨by rw [turnR_len]; exact five.1, fun s hs => ?_⟩
  rw [turnR_len] at hs
  rw [turnR_get hs, turnR_len]
  refine ⟨by simp, fun t ht => ?_⟩
  obtain ⟨j, hj, rfl⟩ := List.mem_map.mp ht
  exact five.mv_lt hs (h.idx (sg_mem (List.mem_range.mp hj)))
theorem Sim.turn {A B : List (List Nat)} {fA fB : List Bool} {S : Nat → Nat → Prop} (h : Sim A fA B fB S) {to : List Nat} (ht : Ren to) (five : Five A) (lt : ∀ s t, S s t → s < A.length ∧ t < B.length) : Sim (turnR to A) fA (turnR to B) fB S := by
  intro s t r
  obtain ⟨e, m⟩ := h s t r
  obtain ⟨l1, l2⟩ := lt s t r
  refine ⟨e, ?_⟩
  rw [turnR_get l1, turnR_get l2]
  refine Rl.of (by simp) fun j hj => ?_
  have hj' : j < 5 := by simpa using hj
  have hx := ht.idx (sg_mem hj')
  have := m.get (to.idxOf (sg j)) (by rw [(five.2 s l1).1]; exact hx)
  rw [List.getD_eq_getElem?_getD, List.getElem?_map, List.getElem?_range hj', List.getD_eq_getElem?_getD (l := (List.range 5).map _), List.getElem?_map, List.getElem?_range hj']
  exact this
/-- a renamed text leads where the text leads -/
theorem turnR_run {to : List Nat} (ht : Ren to) {R : List (List Nat)} (five : Five R) : ∀ (l : List Nat) (s : Nat), s < R.length → Sg l → runM (turnR to R) s (ren to l) = runM R s l
  | [], s, _, _ => rfl
  | c :: l, s, hs, hl => by
    have hc := hl c List.mem_cons_self
    have h1 := plc_mem.mpr hc
    have h2 := plc_mem.mpr (ht.mem1 c)
    cases e1 : plc c with
    | none => rw [e1] at h1; cases h1
    | some k =>
      cases e2 : plc (ren1 to c) with
      | none => rw [e2] at h2; cases h2
      | some j =>
        have hj := plc_lt e2
        have ej : to.idxOf (sg j) = k := by
          rw [sg_plc e2]
          unfold ren1
          rw [e1, Option.getD_some, ht.idx_at (plc_lt e1)]
        show runM (turnR to R) s (ren1 to c :: ren to l) = _
        rw [runM, runM, e1, e2]
        show runM (turnR to R) (mv (turnR to R) s j) (ren to l) = runM R (mv R s k) l
        rw [turnR_mv hs hj, ej]
        exact turnR_run ht five l _ (five.mv_lt hs (plc_lt e1)) fun x hx => hl x (List.mem_cons_of_mem _ hx)
def sp_rlang (K : PySem.W.Frag) (C : Addr) : Sp := fun vs H Q _ => ∃ p R F to, vs = [.ref p, .str (Gx.mkS to)] ∧ MachAt K C H p R F ∧ Five R ∧ F.length = R.length ∧ R.length ≤ 100 ∧ Ren to ∧
  ∀ H' p' o mk pk, Same H H' → LeastOf (turnR to R) F o mk pk → MachAt K C H' p' (lRows (turnR to R) mk pk) (lFins F pk) → Q (.ref p') H'
theorem turn_step {to row : List Nat} (ht : Ren to) (h5 : row.length = 5) {i k : Nat} (hi : i < 5) (hp : plc (to.getD i 0) = some k) :
    ((List.range 5).map fun j => V.int ((if to.idxOf (sg j) < i then row.getD (to.idxOf (sg j)) 0 else 0 : Nat) : Nat)).set k (V.int (row.getD i 0 : Nat)) = (List.range 5).map fun j => V.int ((if to.idxOf (sg j) < i + 1 then row.getD (to.idxOf (sg j)) 0 else 0 : Nat) : Nat) := by
  have hk := plc_lt hp
  have ek := sg_plc hp
  refine List.ext_getElem? fun j => ?_
  by_cases hj : j < 5
  · rw [List.getElem?_set, List.getElem?_map, List.getElem?_map, List.getElem?_range hj]
    by_cases e : k = j
    · subst e
      rw [if_pos rfl, if_pos (by simp; omega), Option.map_some]
      show _ = some (V.int ((if to.idxOf (sg k) < i + 1 then row.getD (to.idxOf (sg k)) 0 else 0 : Nat) : Nat))
      rw [ek, ht.idx_at hi, if_pos (Nat.lt_succ_self i)]
    · rw [if_neg e]
      have ne : to.idxOf (sg j) ≠ i := fun z => e (sg_inj hk hj (by rw [ek, ← z, ht.at_idx (sg_mem hj)]))
      have : (to.idxOf (sg j) < i + 1) = (to.idxOf (sg j) < i) := propext ⟨fun h => by omega, fun h => by omega⟩
      simp only [Option.map_some, this]
  · rw [List.getElem?_eq_none (by simp; omega), List.getElem?_eq_none (by simp; omega)]
theorem G_renamed_language (T : Txt K mg w) : FnOk P w K mg base CX0 6 T.f_renamed_language T.fd_renamed_language ["machine", "to"] (sp_rlang K T.a_Machine) := by
  have G_Machine_init := G_Machine_init (P := P) (w := w) (base := base) T
  refine T.F_renamed_language.ok sc_renamed_language (fun vs H Q E h => ?_) (fun cdv A outer s H vs Q E hr h => ?_)
  · obtain ⟨p, R, F, to, rfl, _⟩ := h
    rfl
  · obtain ⟨p, R, F, to, rfl, hm, five, hF, h100, ht, q⟩ := h
    have h5 := ht.len
    obtain ⟨dx, x, y, hp, d1, d2⟩ := id hm
    obtain ⟨r, xs, rfl, hx, hxd⟩ := rowsD_at d1
    obtain ⟨r2, rfl, hy⟩ := finsD_at d2
    have hl := Gx.dpAll_len hxd
    rw [List.length_map] at hl
    refine ⟨_, ((pss_cons (ps_set (i := 2) sc_renamed_language.nd rfl (Or.inl rfl) (pe_lst pa_nil))
  (pss_cons (ps_for PassesOwn.never rfl (pi_tup (pe_fld (pv 0) rfl)) (pg_name (i := 3) sc_renamed_language.nd rfl (Or.inl rfl))
  (pss_cons (ps_set (i := 4) sc_renamed_language.nd rfl (Or.inl rfl) (pe_lst (pa_cons pe_int (pa_cons pe_int (pa_cons pe_int (pa_cons pe_int (pa_cons pe_int pa_nil)))))))
  (pss_cons (ps_for PassesOwn.never rfl (pi_range1 rfl T.z_range (pa_cons (pe_callB Gx.cr_lenS (by rfl) T.z_len bt_len (pa_cons (pe_glob (v := .str (Str.ofString ":;abc")) rfl T.g_SIGNS ⟨_, rfl⟩) pa_nil)) pa_nil)) (pg_name (i := 5) sc_renamed_language.nd rfl (Or.inl rfl))
  (pss_one (ps_asg (pe_ix ix_tup (pv 3) (pv 5) (fun _ _ => rfl)) (pg_sub (pv 4) (pe_ix (r := Gx.rIxK T.a_PLACES [(":", 0), (";", 1), ("a", 2), ("b", 3), ("c", 4)]) (Gx.ix_K T.kd_PLACES) (pe_glob (v := .ref T.a_PLACES) rfl T.g_PLACES rfl) (pe_ix ix_str (pv 1) (pv 5) (fun _ _ => rfl)) (fun _ _ => rfl)) set_list))))
  (pss_one (ps_expr (pe_bm PySem.F.plainAttrs_list PySem.F.slot_list_append PySem.F.type_list_append mt_append (pv 2) (pa_cons (pv 4) pa_nil)))))))
  (pss_one (ps_ret (pe_make T.M_Machine G_Machine_init (hr.mono (by first | decide | omega)) (by rfl) T.g_Machine T.b_Machine_init .nil pass0 (pa_cons (pv 2) (pa_cons (pe_fld (pv 0) rfl) pa_nil)))))))), ?_⟩
    clear G_Machine_init
    rw [st_renamed_language]
    try dsimp only [cxOf]
    walk_at "g"
    refine Gx.newL (by show 0 ≤ 16777216; decide) fun D H1 E1 => ?_
    have s1 := E1.same
    have eD := E1.at_
    have nD := E1.fresh
    clear E1
    walk_at "g"
    refine ⟨p, T.a_Machine, dx, _, _, rfl, s1 _ _ hp, T.c_Machine, T.n_Machine_rows, lk_rows _ _, ?_⟩
    refine ⟨r, rfl, ⟨_, s1.seqT hx⟩, for_tup (K := K) (a := r) (xs := xs) (fun i σ H' => ∃ (y1 y2 y3 : Option V), Same H H' ∧ LsP H' D ((turnR to (R.take i)).map fun row => row.map fun n => V.int (n : Nat)) ∧ σ = [some (.ref p), some (.str (Gx.mkS to)), some (.ref D), y1, y2, y3])
      ⟨none, none, none, s1, .nil eD, rfl⟩ (fun i σ H' _ ⟨_, _, _, s2, _⟩ => s2.seqT hx) ?_ ?_⟩
    · rintro i v σ H2 hi ⟨y1, y2, y3, s2, m2, rfl⟩
      have hi' : i < R.length := by have := (List.getElem?_eq_some_iff.mp hi).1; omega
      obtain ⟨rr, e1, hrr⟩ := rows_get hxd (row_get hi')
      rw [hi] at e1
      cases e1
      obtain ⟨f1, f2⟩ := five.2 i hi'
      generalize hrow : R.getD i [] = row at *
      walk_at "g"
      refine Gx.newL (by show 5 ≤ 16777216; decide) fun E H3 E3 => ?_
      walk_at "g"
      refine ⟨5, rfl, by decide, by decide, for_range (lo := 0) (n := 5) (fun j σ H' => ∃ (y3 : Option V), Same H2 H' ∧ H' E = some (.lst ((List.range 5).map fun z => V.int ((if to.idxOf (sg z) < j then row.getD (to.idxOf (sg z)) 0 else 0 : Nat) : Nat))) ∧ σ = [some (.ref p), some (.str (Gx.mkS to)), some (.ref D), some (.ref rr), some (.ref E), y3])
        ⟨_, E3.same, E3.at_, rfl⟩ ?_ ?_⟩
      · rintro j σ H4 hj ⟨y3, s4, e4, rfl⟩
        have hj' : j < 5 := hj
        have hT := (s2.trans s4).seqT hrr
        have hm1 := plc_mem.mpr (ht.get_mem hj')
        walk_at "g"
        refine Gx.ixT hT (Gx.atI_of (k := j) (by omega) (int_get (by omega))) ?_
        walk_at "g"
        rw [show (0 + (j : Int)).toNat = j by omega]
        cases hp : plc (to.getD j 0) with
        | none => rw [hp] at hm1; cases hm1
        | some k =>
          have hk := plc_lt hp
          refine Gx.ixK (i := (k : Nat)) (by rw [getS_plc, hp]; rfl) ?_
          refine Gx.setL (j := k) e4 rfl (by simp; omega) ?_
          rw [turn_step ht f1 hj' hp]
          exact ⟨_, Gx.Same.put s4 E3.fresh, upd_same, rfl⟩
      · rintro σ H4 ⟨y3, s4, e4, rfl⟩
        have et : ((List.range 5).map fun z => V.int ((if to.idxOf (sg z) < 5 then row.getD (to.idxOf (sg z)) 0 else 0 : Nat) : Nat)) = ((List.range 5).map fun z => row.getD (to.idxOf (sg z)) 0).map fun n => V.int (n : Nat) := by
          rw [List.map_map]
          refine List.map_congr_left fun z hz => ?_
          have := ht.idx (sg_mem (List.mem_range.mp hz))
          rw [if_pos this]
          rfl
        rw [et] at e4
        obtain ⟨acc, h1, h2, h3⟩ := m2.snoc s4 E3.fresh e4
        rw [List.length_map, turnR_len, List.length_take] at h2
        walk_at "g"
        refine ⟨_, _, _, Gx.Same.put (s2.trans s4) nD, ?_, rfl⟩
        rw [List.take_add_one, row_get hi', Option.toList_some, hrow]
        unfold turnR at h3 ⊢
        rw [List.map_append, List.map_append]
        exact h3
    · rintro σ H2 ⟨y1, y2, y3, s2, m2, rfl⟩
      rw [hl, List.take_length] at m2
      have hR : LsAt K H2 D (turnR to R) := m2.lsAt
      walk_at "g"
      refine ⟨p, T.a_Machine, dx, _, _, rfl, s2 _ _ hp, T.c_Machine, T.n_Machine_finals, lk_finals _ _, ?_⟩
      walk_at "g"
      refine mk_mach (fin := F) hR.rows ((turnR_five ht five).ok (by rw [turnR_len]; omega)) (.inr (s2.seqT hy)) (by rw [turnR_len]; exact hF) (fun o mk pk L => ?_) fun H3 p' o mk pk s3 L hm3 => ?_
      · have := least_le L
        rw [turnR_len] at this
        omega
      · exact q _ _ o mk pk (s2.trans s3) L hm3
end
end K03
namespace K03
open PySem PySem.Spec PyProof.Rows L2
local macro_rules | `(tactic| walk_at "con") => `(tactic| first | with_reducible refine Gx.conE K03.ks0 ?_ | with_reducible refine Gx.conE K03.ks1 ?_ | with_reducible refine Gx.conE K03.ks2 ?_ | with_reducible refine Gx.conE K03.ks3 ?_ | with_reducible refine Gx.conE K03.ks4 ?_ | with_reducible refine Gx.conE K03.ks5 ?_ | with_reducible refine Gx.conE K03.ks6 ?_ | with_reducible refine Gx.conE K03.ks7 ?_ | with_reducible refine Gx.conE K03.ks8 ?_ | with_reducible refine Gx.conE K03.ks9 ?_ | with_reducible refine Gx.conE K03.ks10 ?_ | with_reducible refine Gx.conE K03.ks11 ?_ | with_reducible refine Gx.conE K03.ks12 ?_ | with_reducible refine Gx.conE K03.ks13 ?_ | with_reducible refine Gx.conE K03.ks14 ?_ | with_reducible refine Gx.conE K03.ks15 ?_)
section
variable {P : Program} {w : World} {K : PySem.W.Frag} {mg : Str → Option Value} {base : Heap}
/-- the signs of the law that are none of the program's -/
def frn : List Nat := [32, 33, 34, 35, 36, 38, 39, 40, 41, 42, 43, 44, 45, 46, 47, 48, 49, 50, 51, 52, 53, 54, 55, 56, 57, 60, 61, 62, 63, 64, 65, 66, 67, 68, 69, 70, 71, 72, 73, 74, 75, 76, 77, 78, 79, 80, 81, 82, 83, 84, 85, 86, 87, 88, 89, 90, 91, 92, 93, 94, 95, 96, 100, 101, 102, 103, 104, 105, 106, 107, 108, 109, 110, 111, 112, 113, 114, 115, 116, 117, 118, 119, 120, 121, 122, 123, 124, 125, 126]
theorem frn_no : ∀ c ∈ frn, plc c = none ∧ c < 1114112 := by decide +kernel
def sp_foreign : Sp := fun vs H Q _ => vs = [] ∧ Q (.str (Gx.mkS frn)) H
theorem G__law_foreign (T : Txt K mg w) : FnOk P w K mg base CX0 1 T.f__law_foreign T.fd__law_foreign [] sp_foreign := by
  refine T.F__law_foreign.ok sc__law_foreign (fun vs H Q E h => ?_) (fun cdv A outer s H vs Q E hr h => ?_)
  · obtain ⟨rfl, _⟩ := h
    rfl
  · obtain ⟨rfl, q⟩ := h
    refine ⟨_, ((pss_one (ps_ret pe_str))), ?_⟩
    rw [st__law_foreign]
    try dsimp only [cxOf]
    walk_at "g"
    exact q
def sp_char (K : PySem.W.Frag) : Sp := fun vs H Q _ => ∃ (b : Addr) (xs : List Int) (i : Int) (l : List Nat), vs = [.ref b, .int i, .str (Gx.mkS l)] ∧ SqL K H b (xs.map V.int) ∧ 0 ≤ i ∧ i + 2 ≤ xs.length ∧ 0 < l.length ∧ l.length ≤ 1000 ∧ ∀ c ∈ l, Q (.str (Gx.mkS [c])) H
theorem getD_mem {l : List Nat} {i : Nat} (h : i < l.length) : l.getD i 0 ∈ l := by
  rw [List.getD_eq_getElem?_getD, List.getElem?_eq_getElem h]
  exact List.getElem_mem h
theorem G__law_char (T : Txt K mg w) : FnOk P w K mg base CX0 2 T.f__law_char T.fd__law_char ["numbers", "at", "chars"] (sp_char K) := by
  have G__law_pick := G__law_pick (P := P) (w := w) (base := base) T
  refine T.F__law_char.ok sc__law_char (fun vs H Q E h => ?_) (fun cdv A outer s H vs Q E hr h => ?_)
  · obtain ⟨b, xs, i, l, rfl, _⟩ := h
    rfl
  · obtain ⟨b, xs, i, l, rfl, hX, h0, hx, hl, hl', q⟩ := h
    refine ⟨_, ((pss_cons (ps_set (i := 3) sc__law_char.nd rfl (Or.inl rfl) (pe_op op_add (pe_op op_mul pe_int (pe_call G__law_pick (hr.mono (by first | decide | omega)) (by rfl) T.g__law_pick T.F__law_pick.kp T.b__law_pick .nil pass0 (pa_cons (pv 0) (pa_cons (pv 1) (pa_cons pe_int pa_nil))))) (pe_call G__law_pick (hr.mono (by first | decide | omega)) (by rfl) T.g__law_pick T.F__law_pick.kp T.b__law_pick .nil pass0 (pa_cons (pv 0) (pa_cons (pe_op op_add (pv 1) pe_int) (pa_cons pe_int pa_nil))))))
  (pss_one (ps_ret (pe_ix ix_str (pv 2) (pe_op op_mod (pe_callTy Gx.cr_int1 (by rfl) T.z_int bt_int (pa_cons (pv 3) pa_nil)) (pe_callB Gx.cr_lenS (by rfl) T.z_len bt_len (pa_cons (pv 2) pa_nil))) (fun _ _ => rfl)))))), ?_⟩
    clear G__law_pick
    rw [st__law_char]
    try dsimp only [cxOf]
    walk_at "g"
    refine ⟨b, xs, _, _, rfl, hX, by omega, by omega, by omega, ?_⟩
    generalize pk0 xs _ _ = v1
    walk_at "g"
    refine ⟨b, xs, _, _, rfl, hX, by omega, by omega, by omega, ?_⟩
    generalize pk0 xs _ _ = v2
    have e1 := Int.emod_nonneg (60 * (v1 : Int) + v2) (b := (l.length : Int)) (by omega)
    have e2 := Int.emod_lt_of_pos (60 * (v1 : Int) + v2) (b := (l.length : Int)) (by omega)
    walk_at "g"
    exact q _ (getD_mem (by omega))
def sp_lren (K : PySem.W.Frag) : Sp := fun vs H Q _ => ∃ (b : Addr) (xs : List Int) (i : Int), vs = [.ref b, .int i] ∧ SqL K H b (xs.map V.int) ∧ 0 ≤ i ∧ i + 5 ≤ xs.length ∧ ∀ to, Ren to → Q (.str (Gx.mkS to)) H
theorem ren_step {to left : List Nat} {v : Nat} (h : (to ++ left).Perm sgs) (hv : v < left.length) : ((to ++ [left.getD v 0]) ++ (left.take v ++ left.drop (v + 1))).Perm sgs := by
  refine List.Perm.trans ?_ h
  rw [List.append_assoc]
  refine List.Perm.append_left _ ?_
  have e : left = left.take v ++ left.getD v 0 :: left.drop (v + 1) := by
    rw [List.getD_eq_getElem?_getD, List.getElem?_eq_getElem hv, Option.getD_some, List.getElem_cons_drop, List.take_append_drop]
  conv => rhs; rw [e]
  show (left.getD v 0 :: (left.take v ++ left.drop (v + 1))).Perm _
  exact List.perm_middle.symm
theorem G__law_renaming (T : Txt K mg w) : FnOk P w K mg base CX0 2 T.f__law_renaming T.fd__law_renaming ["numbers", "at"] (sp_lren K) := by
  have G__law_pick := G__law_pick (P := P) (w := w) (base := base) T
  refine T.F__law_renaming.ok sc__law_renaming (fun vs H Q E h => ?_) (fun cdv A outer s H vs Q E hr h => ?_)
  · obtain ⟨b, xs, i, rfl, _⟩ := h
    rfl
  · obtain ⟨b, xs, i, rfl, hX, h0, hx, q⟩ := h
    refine ⟨_, ((pss_cons (ps_set (i := 2) sc__law_renaming.nd rfl (Or.inl rfl) pe_str)
  (pss_cons (ps_set (i := 3) sc__law_renaming.nd rfl (Or.inl rfl) pe_str)
  (pss_cons (ps_for PassesOwn.never rfl (pi_range1 rfl T.z_range (pa_cons pe_int pa_nil)) (pg_name (i := 4) sc__law_renaming.nd rfl (Or.inl rfl))
  (pss_cons (ps_set (i := 5) sc__law_renaming.nd rfl (Or.inl rfl) (pe_call G__law_pick (hr.mono (by first | decide | omega)) (by rfl) T.g__law_pick T.F__law_pick.kp T.b__law_pick .nil pass0 (pa_cons (pv 0) (pa_cons (pe_op op_add (pv 1) (pv 4)) (pa_cons (pe_op op_sub pe_int (pv 4)) pa_nil)))))
  (pss_cons (ps_set (i := 3) sc__law_renaming.nd rfl (Or.inl rfl) (pe_op Gx.op_addS (pv 3) (pe_ix ix_str (pv 2) (pv 5) (fun _ _ => rfl))))
  (pss_one (ps_set (i := 2) sc__law_renaming.nd rfl (Or.inl rfl) (pe_op Gx.op_addS (pe_slice sl_str (pv 2) po_none (po_some (pv 5))) (pe_slice sl_str (pv 2) (po_some (pe_op op_add (pv 5) pe_int)) po_none)))))))
  (pss_one (ps_ret (pv 3))))))), ?_⟩
    clear G__law_pick
    rw [st__law_renaming]
    try dsimp only [cxOf]
    walk_at "g"
    refine ⟨5, rfl, by decide, by decide, for_range (lo := 0) (n := 5) (fun k σ H' => H' = H ∧ ∃ (left to : List Nat) (y1 y2 : Option V), to.length = k ∧ left.length + k = 5 ∧ (to ++ left).Perm sgs ∧ σ = [some (.ref b), some (.int i), some (.str (Gx.mkS left)), some (.str (Gx.mkS to)), y1, y2])
      ⟨rfl, sgs, [], _, _, rfl, rfl, List.Perm.refl _, rfl⟩ ?_ ?_⟩
    · rintro k σ H' hk ⟨rfl, left, to, y1, y2, tl, ll, pm, rfl⟩
      have hk' : k < 5 := hk
      walk_at "g"
      refine ⟨b, xs, _, _, rfl, hX, by omega, by omega, by omega, ?_⟩
      generalize hv0 : pk0 xs _ _ = v
      have hv : v < left.length := by
        have := pk0_lt xs (i + (0 + (k : Int))).toNat (m := (5 - (0 + (k : Int))).toNat) (by omega)
        rw [hv0] at this
        omega
      clear hv0
      walk_at "g"
      rw [show ((v : Int)).toNat = v by omega, show ((v : Int) + 1).toNat = v + 1 by omega]
      exact ⟨rfl, _, _, _, _, by rw [List.length_append, tl]; rfl, by rw [List.length_append, List.length_take, List.length_drop]; omega, ren_step pm hv, rfl⟩
    · rintro σ H' ⟨rfl, left, to, y1, y2, tl, ll, pm, rfl⟩
      have : left = [] := List.length_eq_zero_iff.mp (by omega)
      subst this
      rw [List.append_nil] at pm
      walk_at "g"
      exact q to pm
theorem G__law_turned (T : Txt K mg w) : FnOk P w K mg base CX0 1 T.f__law_turned T.fd__law_turned ["text", "to"] (sp_renamed K) := by
  refine T.F__law_turned.ok sc__law_turned (fun vs H Q E h => ?_) (fun cdv A outer s H vs Q E hr h => ?_)
  · obtain ⟨l, to, rfl, _⟩ := h
    rfl
  · obtain ⟨l, to, rfl, ht, hl, hll, q⟩ := h
    have h5 := ht.len
    refine ⟨_, ((pss_one (ps_ret (Gx.pe_joinG pe_str (pe_lc (own := [("sign", 2)]) (g := gName 2) (tt := tYes) (by rfl) sc__law_turned.nd (pi_str (pv 0)) (blkOk_by (N := ["text", "to", "sign"]) (sc := defScope s__law_turned) (by decide +kernel)) (fun _ _ _ _ _ => (pg_name (i := 2) sc__law_turned.nd rfl (Or.inl rfl))) (fun _ _ _ _ _ => pts_nil) (fun _ _ _ _ _ => (pe_ix ix_str (pv 1) (pe_bm PySem.F.plainAttrs_str PySem.F.slot_str_index PySem.F.type_str_index mt_sindex pe_str (pa_cons (pv 2) pa_nil) : PE _ _ (tBM K _ _ _ _)) (fun _ _ => rfl)))))))), ?_⟩
    rw [st__law_turned]
    try dsimp only [cxOf]
    walk_at "g"
    refine fun D nD => Gx.lc_str (fun i H' => Same H H' ∧ H' D = some (.lst ((((l.take i).map fun c => [ren1 to c]).map Gx.mkS).map V.str))) ⟨Gx.Same.put (Same.refl H) nD, upd_same⟩ ?_ ?_
    · rintro i c H' hc ⟨s1, e1⟩
      have hil := (List.getElem?_eq_some_iff.mp hc).1
      walk_at "g"
      refine ⟨rfl, ?_⟩
      walk_at "g"
      have hs := hl.isP c (List.mem_of_getElem? hc)
      cases hp : plc c with
      | none => rw [hp] at hs; cases hs
      | some k =>
        have hk := plc_lt hp
        refine ⟨rfl, ?_⟩
        walk_at "g"
        refine ⟨_, _, k, [], rfl, rfl, occ_sg hp, ?_⟩
        walk_at "g"
        refine ⟨_, e1, Gx.lineL (by simp; omega), Gx.Same.put s1 nD, ?_⟩
        rw [upd_same, List.take_add_one, hc, Option.toList_some, List.map_append, List.map_append, List.map_append]
        unfold ren1
        simp only [List.map_cons, List.map_nil]
        rw [hp]
        rfl
    · rintro H' ⟨s1, e1⟩
      rw [List.take_length] at e1
      walk_at "g"
      refine Gx.join0 (SqL.of e1) (by rw [flat_one, List.length_map]; omega) ?_
      rw [flat_one]
      walk_at "g"
      exact q _ s1
theorem filt_snoc (f : Nat → Bool) {l : List Nat} {i c : Nat} (h : l[i]? = some c) : (l.take (i + 1)).filter f = (l.take i).filter f ++ (if f c = true then [c] else []) := by
  rw [List.take_add_one, h, Option.toList_some, List.filter_append]
  congr 1
  by_cases e : f c = true
  · rw [if_pos e, List.filter_cons_of_pos e]; rfl
  · rw [if_neg e, List.filter_cons_of_neg e]; rfl
theorem signV_snoc (l : List Nat) (c : Nat) : Gx.signV (l ++ [c]) = Gx.signV l ++ [V.str (Gx.mkS [c])] := by
  unfold Gx.signV
  rw [List.map_append]
  rfl
theorem signV_len (l : List Nat) : (Gx.signV l).length = l.length := by
  unfold Gx.signV
  rw [List.length_map]
theorem signV_strs (l : List Nat) : Gx.signV l = ((l.map fun c => [c]).map Gx.mkS).map V.str := by
  unfold Gx.signV
  rw [List.map_map, List.map_map]
  rfl
theorem G__law_turned_pattern (T : Txt K mg w) : ∀ n, FnOk P w K mg base CX0 (n + 2) T.f__law_turned_pattern T.fd__law_turned_pattern ["pattern", "to"] (spPat K n)
  | 0 => ⟨fun _ _ _ _ h => h.elim, fun _ _ _ _ _ _ _ _ _ _ _ _ _ h => h.elim⟩
  | n + 1 => by
    have G__law_turned_pattern := G__law_turned_pattern T n
    have G__law_turned := G__law_turned (P := P) (w := w) (base := base) T
    refine T.F__law_turned_pattern.ok sc__law_turned_pattern (fun vs H Q E h => ?_) (fun cdv A outer s H vs Q E hr h => ?_)
    · obtain ⟨x, p, to, rfl, _⟩ := h
      rfl
    · obtain ⟨x, p, to, rfl, hx, ok, ht, dp, q⟩ := h
      refine ⟨_, ((pss_cons (ps_if (pt_cmpR op_eq (pe_ix ix_tup (pv 0) pe_int (fun _ _ => rfl)) pe_str (nomark _))
  (pss_one (ps_ret (pe_tup (pa_cons pe_str (pa_cons (pe_call G__law_turned (hr.mono (by first | decide | omega)) (by rfl) T.g__law_turned T.F__law_turned.kp T.b__law_turned .nil pass0 (pa_cons (pe_ix ix_tup (pv 0) pe_int (fun _ _ => rfl)) (pa_cons (pv 1) pa_nil))) pa_nil)))))
  pss_nil)
  (pss_cons (ps_if (pt_cmpR op_eq (pe_ix ix_tup (pv 0) pe_int (fun _ _ => rfl)) pe_str (nomark _))
  (pss_one (ps_ret (pe_tup (pa_cons pe_str (pa_cons (Gx.pe_joinG pe_str (pe_lc (own := [("sign", 2)]) (g := gName 2)  (by rfl) sc__law_turned_pattern.nd (pi_str pe_str) (blkOk_by (N := ["pattern", "to", "sign", "part"]) (sc := defScope s__law_turned_pattern) (by decide +kernel)) (fun _ _ _ _ _ => (pg_name (i := 2) sc__law_turned_pattern.nd rfl (Or.inl rfl))) (fun _ _ _ _ _ => (pts_one (pt_cmpR Gx.op_inSg (pv 2) (pe_call G__law_turned (hr.mono (by first | decide | omega)) (by rfl) T.g__law_turned T.F__law_turned.kp T.b__law_turned .nil pass0 (pa_cons (pe_ix (r := rIxT K) ix_tup (pv 0) pe_int (fun _ _ => rfl)) (pa_cons (pv 1) pa_nil))) rfl))) (fun _ _ _ _ _ => (pv 2)))) pa_nil)))))
  pss_nil)
  (pss_one (ps_ret (pe_op op_catT (pe_tup (pa_cons (pe_ix ix_tup (pv 0) pe_int (fun _ _ => rfl)) pa_nil)) (pe_callTy Gx.cr_tupL (by rfl) T.z_tuple bt_tuple (pa_cons (pe_lc (own := [("part", 3)]) (g := gName 3) (tt := tYes) (by rfl) sc__law_turned_pattern.nd (pi_tup (pe_slice sl_tup (pv 0) (po_some pe_int) po_none)) (blkOk_by (N := ["pattern", "to", "sign", "part"]) (sc := defScope s__law_turned_pattern) (by decide +kernel)) (fun _ _ _ _ _ => (pg_name (i := 3) sc__law_turned_pattern.nd rfl (Or.inl rfl))) (fun _ _ _ _ _ => pts_nil) (fun _ _ _ _ _ => (pe_call G__law_turned_pattern (hr.mono (by first | decide | omega)) (by rfl) T.g__law_turned_pattern T.F__law_turned_pattern.kp T.b__law_turned_pattern .nil pass0 (pa_cons (pv 3) (pa_cons (pv 1) pa_nil))))) pa_nil)))))))), ?_⟩
      clear G__law_turned_pattern G__law_turned
      rw [st__law_turned_pattern]
      try dsimp only [cxOf]
      rcases p.node with ⟨l, rfl⟩ | ⟨l, rfl⟩ | ⟨t1, t2, e1, e2, k1, k2, hk⟩
      · rw [patD] at hx
        cases hx with
        | tup hs ha =>
          rename_i a xs
          cases ha with
          | cons a1 ha =>
            cases a1
            cases ha with
            | cons a1 ha =>
              cases a1
              cases ha
              walk_at "g"
              rw [if_pos (by decide)]
              walk_at "g"
              refine ⟨l, to, rfl, ht, ok.1, Nat.le_trans ok.2 (by decide), fun H1 s1 => ?_⟩
              refine Gx.newT (by show 2 ≤ 16777216; decide) fun p H2 E2 => ?_
              walk_at "g"
              exact q _ _ (s1.trans E2.same) (.tup (SqT.of E2.at_) (.cons (.str _) (.cons (.str _) .nil)))
      · rw [patD] at hx
        cases hx with
        | tup hs ha =>
          rename_i a xs
          cases ha with
          | cons a1 ha =>
            cases a1
            cases ha with
            | cons a1 ha =>
              cases a1
              cases ha
              walk_at "g"
              rw [if_neg (by decide)]
              walk_at "g"
              rw [if_pos (by decide)]
              walk_at "g"
              refine fun D nD => Gx.lc_str (l := sgs) (fun i H' => Same H H' ∧ H' D = some (.lst (Gx.signV ((sgs.take i).filter fun c => decide (c ∈ ren to l))))) ⟨Gx.Same.put (Same.refl H) nD, upd_same⟩ ?_ ?_
              · rintro i c H1 hc ⟨s1, e1⟩
                have hs1 := s1.seqT hs
                have hil := (List.getElem?_eq_some_iff.mp hc).1
                walk_at "g"
                refine ⟨rfl, ?_⟩
                walk_at "g"
                refine ⟨l, to, rfl, ht, ok.1, Nat.le_trans ok.2.2 (by decide), fun H2 s2 => ?_⟩
                walk_at "g"
                have e2 := s2 _ _ e1
                rw [filt_snoc _ hc]
                refine Gx.iteD (fun hm => ?_) (fun hm => ?_)
                · rw [if_pos (decide_eq_true hm)]
                  walk_at "g"
                  refine ⟨_, e2, Gx.lineL ?_, Gx.Same.put (s1.trans s2) nD, by rw [upd_same, signV_snoc]⟩
                  rw [signV_len]
                  have := List.length_filter_le (fun c => decide (c ∈ ren to l)) (sgs.take i)
                  rw [List.length_take] at this
                  show _ < 16777216
                  have h5 : sgs.length = 5 := rfl
                  omega
                · rw [if_neg (by rw [decide_eq_true_eq]; exact hm), List.append_nil]
                  exact ⟨s1.trans s2, e2⟩
              · rintro H1 ⟨s1, e1⟩
                rw [List.take_length] at e1
                walk_at "g"
                have hle : (sgs.filter fun c => decide (c ∈ ren to l)).length ≤ 5 := List.length_filter_le _ _
                refine Gx.join0 (ls := (sgs.filter fun c => decide (c ∈ ren to l)).map fun c => [c]) (SqL.of (by rw [e1, signV_strs])) (by rw [flat_one, List.map_id']; omega) ?_
                rw [flat_one, List.map_id']
                refine Gx.newT (by show 2 ≤ 16777216; decide) fun p2 H3 E3 => ?_
                walk_at "g"
                exact q _ _ (s1.trans E3.same) (.tup (SqT.of E3.at_) (.cons (.str _) (.cons (.str _) .nil)))
      · rw [e1] at hx
        cases hx with
        | tup hs ha =>
          rename_i a xs
          cases ha with
          | cons a1 ha =>
            cases a1
            rename_i ys
            have hyl := Gx.dpAll_len ha
            rw [List.length_map] at hyl
            walk_at "g"
            refine Gx.ixT hs (Gx.atI_of (k := 0) rfl rfl) ?_
            walk_at "g"
            rw [if_neg (by rw [decide_eq_true_eq]; exact t1)]
            walk_at "g"
            refine Gx.ixT hs (Gx.atI_of (k := 0) rfl rfl) ?_
            walk_at "g"
            rw [if_neg (by rw [decide_eq_true_eq]; exact t2)]
            walk_at "g"
            refine Gx.ixT hs (Gx.atI_of (k := 0) rfl rfl) ?_
            walk_at "g"
            refine Gx.newT (by show 1 ≤ 16777216; decide) fun p1 H1 E1 => ?_
            have hs1 := E1.same.seqT hs
            walk_at "g"
            refine slT hs1 fun p2 H2 E2 => ?_
            have hs2 : SqT K H2 p2 ys := SqT.of E2.at_
            have s02 := E1.same.trans E2.same
            walk_at "g"
            refine ⟨⟨_, hs2⟩, fun D nD => lc_tup (K := K) (a := p2) (xs := ys) (fun i H3 => Same H2 H3 ∧ ∃ zs, H3 D = some (.lst zs) ∧ DpAll K H3 zs ((p.kids.take i).map fun k => patD (k.rn to)))
              ⟨Gx.Same.put (Same.refl H2) nD, [], upd_same, by rw [List.take_zero]; exact .nil⟩ (fun i H3 _ ⟨s3, _⟩ => s3.seqT hs2) ?_ ?_⟩
            · rintro i x H3 hi ⟨s3, zs, e3, d3⟩
              obtain ⟨d, hd, dx⟩ := Gx.dpAll_get (Gx.dpAll_same (s02.trans s3) _ _ ha) hi
              rw [List.getElem?_map] at hd
              cases hki : p.kids[i]? with
              | none => rw [hki] at hd; cases hd
              | some kd =>
                rw [hki] at hd
                obtain rfl := Option.some.inj hd
                obtain ⟨hk1, hk2⟩ := hk kd (List.mem_of_getElem? hki)
                have hil := (List.getElem?_eq_some_iff.mp hki).1
                have kpos := kd.depth_pos
                obtain ⟨m, rfl⟩ : ∃ m, n = m + 1 := ⟨n - 1, by omega⟩
                walk_at "g"
                refine ⟨rfl, ?_⟩
                walk_at "g"
                refine ⟨x, kd, to, rfl, dx, hk2 _ ok, ht, by omega, fun H4 y s4 dy => ?_⟩
                refine ⟨zs, s4 _ _ e3, Gx.lineL (by rw [Gx.dpAll_len d3, List.length_map, List.length_take]; omega), Gx.Same.put (s3.trans s4) nD, zs ++ [y], upd_same, ?_⟩
                rw [List.take_add_one, hki, Option.toList_some, List.map_append]
                refine Gx.dpAll_snoc (s4 _ _ e3) (Gx.dpAll_same s4 _ _ d3) ?_ dy (noL_pat _)
                have := noLs_pats ((p.kids.take i).map fun k => k.rn to)
                rw [List.map_map] at this
                exact this
            · rintro H3 ⟨s3, zs, e3, d3⟩
              rw [hyl, List.take_length] at d3
              have zl := Gx.dpAll_len d3
              rw [List.length_map] at zl
              walk_at "g"
              refine Gx.tupL (SqL.of e3) (fun t nt => ?_)
              have E4 := Gx.ext1 (o := .tup zs) nt
              generalize upd H3 t (.tup zs) = H4 at E4 ⊢
              walk_at "g"
              refine Gx.catT' (SqT.of (E4.same _ _ (s3 _ _ (E2.same _ _ E1.at_)))) (SqT.of E4.at_) (by simp) (by rw [zl]; show 1 + _ ≤ _; omega) (fun r H5 s5 hr => ?_)
              refine q _ _ (((s02.trans s3).trans E4.same).trans s5) ?_
              rw [e2]
              exact .tup hr (.cons (.str _) (Gx.dpAll_same (E4.same.trans s5) _ _ d3))
end
end K03
namespace K03
open PySem PySem.Spec PyProof.Rows L2
local macro_rules | `(tactic| walk_at "con") => `(tactic| first | with_reducible refine Gx.conE K03.ks0 ?_ | with_reducible refine Gx.conE K03.ks1 ?_ | with_reducible refine Gx.conE K03.ks2 ?_ | with_reducible refine Gx.conE K03.ks3 ?_ | with_reducible refine Gx.conE K03.ks4 ?_ | with_reducible refine Gx.conE K03.ks5 ?_ | with_reducible refine Gx.conE K03.ks6 ?_ | with_reducible refine Gx.conE K03.ks7 ?_ | with_reducible refine Gx.conE K03.ks8 ?_ | with_reducible refine Gx.conE K03.ks9 ?_ | with_reducible refine Gx.conE K03.ks10 ?_ | with_reducible refine Gx.conE K03.ks11 ?_ | with_reducible refine Gx.conE K03.ks12 ?_ | with_reducible refine Gx.conE K03.ks13 ?_ | with_reducible refine Gx.conE K03.ks14 ?_ | with_reducible refine Gx.conE K03.ks15 ?_)
section
variable {P : Program} {w : World} {K : PySem.W.Frag} {mg : Str → Option Value} {base : Heap}
theorem pow5 {j : Nat} (h : j < 5) : ∃ d : Int, ([V.int 1, V.int 2, V.int 4, V.int 8, V.int 16])[j]? = some (V.int d) ∧ 1 ≤ d ∧ d ≤ 16 := by
  match j, h with
  | 0, _ => exact ⟨1, rfl, by decide, by decide⟩
  | 1, _ => exact ⟨2, rfl, by decide, by decide⟩
  | 2, _ => exact ⟨4, rfl, by decide, by decide⟩
  | 3, _ => exact ⟨8, rfl, by decide, by decide⟩
  | 4, _ => exact ⟨16, rfl, by decide, by decide⟩
def sp_signs (K : PySem.W.Frag) : Sp := fun vs H Q _ => ∃ (n : Int), vs = [.int n] ∧ 0 ≤ n ∧ ∀ H' l, Same H H' → Sg l → l.Nodup → l.length ≤ 5 → Q (.str (Gx.mkS l)) H'
theorem G__law_signs (T : Txt K mg w) : FnOk P w K mg base CX0 1 T.f__law_signs T.fd__law_signs ["number"] (sp_signs K) := by
  refine T.F__law_signs.ok sc__law_signs (fun vs H Q E h => ?_) (fun cdv A outer s H vs Q E hr h => ?_)
  · obtain ⟨n, rfl, _⟩ := h
    rfl
  · obtain ⟨n, rfl, h0, q⟩ := h
    refine ⟨_, ((pss_cons (ps_setLc (i := 1) (own := [("k", 2)]) (g := gName 2)  rfl sc__law_signs.nd rfl rfl (sw_true rfl rfl rfl (by decide +kernel)) (pi_range1 rfl T.z_range (pa_cons pe_int pa_nil)) (blkOk_by (N := ["number", "found", "k"]) (sc := defScope s__law_signs) (by decide +kernel)) (fun _ _ _ _ _ => (pg_name (i := 2) sc__law_signs.nd rfl (Or.inl rfl))) (fun _ _ _ _ _ => (pts_one (pt_cmpR op_eq (pe_op op_mod (pe_op op_fdiv (pe_callTy Gx.cr_int1 (by rfl) T.z_int bt_int (pa_cons (pv 0) pa_nil)) (pe_ix (r := rIxL K) ix_list (pe_lst (pa_cons pe_int (pa_cons pe_int (pa_cons pe_int (pa_cons pe_int (pa_cons pe_int pa_nil)))))) (pv 2) (fun _ _ => rfl))) pe_int) pe_int (nomark _)))) (fun _ _ _ _ _ => (pe_ix ix_str pe_str (pv 2) (fun _ _ => rfl))))
  (pss_cons (ps_if (pt_cmpR (op_eqD hr.units) (pv 1) (pe_lst pa_nil) (nomark _))
  (pss_one (ps_ret pe_str))
  pss_nil)
  (pss_one (ps_ret (Gx.pe_joinG pe_str (pv 1))))))), ?_⟩
    rw [st__law_signs]
    try dsimp only [cxOf]
    walk_at "g"
    refine ⟨5, rfl, by decide, by decide, fun D nD => lc_range (lo := 0) (n := 5) (fun j H' => Same H H' ∧ ∃ ks : List Nat, H' D = some (.lst (Gx.signV (ks.map sg))) ∧ ks.Nodup ∧ ks.length ≤ j ∧ ∀ k ∈ ks, k < j) ⟨Gx.Same.put (Same.refl H) nD, [], upd_same, List.nodup_nil, Nat.le_refl _, fun k h => (List.not_mem_nil h).elim⟩ ?_ ?_⟩
    · rintro j H1 hj ⟨s1, ks, e1, nd, kl, kk⟩
      have hj' : j < 5 := hj
      obtain ⟨d, hd, hd1, hd2⟩ := pow5 hj'
      walk_at "g"
      refine ⟨rfl, ?_⟩
      walk_at "g"
      refine Gx.newL (by show 5 ≤ 16777216; decide) fun p H2 E2 => ?_
      have e2 := E2.same _ _ e1
      walk_at "g"
      refine Gx.ixL (SqL.of E2.at_) (Gx.atI_of (k := j) (by omega) hd) ?_
      walk_at "g"
      refine Gx.iteD (fun hm => ?_) (fun hm => ?_)
      · walk_at "g"
        rw [show (0 + (j : Int)).toNat = j by omega]
        refine ⟨_, e2, Gx.lineL (by rw [signV_len, List.length_map]; show _ < 16777216; omega), Gx.Same.put (s1.trans E2.same) nD, ks ++ [j], ?_, ?_, ?_, ?_⟩
        · rw [upd_same, List.map_append, List.map_cons, List.map_nil, signV_snoc]
          rfl
        · exact List.nodup_append.mpr ⟨nd, by simp, fun x hx y hy => by rw [List.mem_singleton.mp hy]; exact Nat.ne_of_lt (kk x hx)⟩
        · rw [List.length_append, List.length_singleton]; omega
        · intro k hk
          rcases List.mem_append.mp hk with h | h
          · exact Nat.lt_succ_of_lt (kk k h)
          · rw [List.mem_singleton.mp h]; exact Nat.lt_succ_self _
      · exact ⟨s1.trans E2.same, ks, e2, nd, Nat.le_succ_of_le kl, fun k hk => Nat.lt_succ_of_lt (kk k hk)⟩
    · rintro H1 ⟨s1, ks, e1, nd, kl, kk⟩
      replace kk : ∀ k ∈ ks, k < 5 := kk
      replace kl : ks.length ≤ 5 := kl
      have hsg : Sg (ks.map sg) := fun c hc => by
        obtain ⟨k, hk, rfl⟩ := List.mem_map.mp hc
        exact sg_mem (kk k hk)
      have hnd : (ks.map sg).Nodup := List.pairwise_map.mpr (List.Pairwise.imp_of_mem (fun {x y} hx hy hne e => hne (sg_inj (kk x hx) (kk y hy) e)) nd)
      have hln : (ks.map sg).length ≤ 5 := by rw [List.length_map]; exact kl
      generalize ks.map sg = l at *
      walk_at "g"
      refine Gx.newL (by show 0 ≤ 16777216; decide) fun p H2 E2 => ?_
      refine ⟨strsD l, strsD [], .lst (SqL.of (E2.same _ _ e1)) (dp_signs _), .lst (SqL.of E2.at_) .nil, shaped_signs hsg.cp, shaped_signs (fun c hc => (List.not_mem_nil hc).elim), ?_⟩
      rw [eqv_signs]
      walk_at "g"
      refine Gx.iteD (fun hm => ?_) (fun hm => ?_)
      · walk_at "g"
        exact q _ [98] (s1.trans E2.same) (fun c hc => by rw [List.mem_singleton.mp hc]; decide) (by simp) (by simp)
      · walk_at "g"
        refine Gx.join0 (ls := l.map fun c => [c]) (SqL.of (by rw [E2.same _ _ e1, signV_strs])) (by rw [flat_one, List.map_id']; omega) ?_
        rw [flat_one, List.map_id']
        walk_at "g"
        exact q _ _ (s1.trans E2.same) hsg hnd hln
theorem size8 {v : Nat} (h : v < 8) : ∃ d : Int, ([V.int 0, V.int 1, V.int 2, V.int 3, V.int 1, V.int 2, V.int 20, V.int 4])[v]? = some (V.int d) ∧ 0 ≤ d ∧ d ≤ 20 := by
  match v, h with
  | 0, _ => exact ⟨0, rfl, by decide, by decide⟩
  | 1, _ => exact ⟨1, rfl, by decide, by decide⟩
  | 2, _ => exact ⟨2, rfl, by decide, by decide⟩
  | 3, _ => exact ⟨3, rfl, by decide, by decide⟩
  | 4, _ => exact ⟨1, rfl, by decide, by decide⟩
  | 5, _ => exact ⟨2, rfl, by decide, by decide⟩
  | 6, _ => exact ⟨20, rfl, by decide, by decide⟩
  | 7, _ => exact ⟨4, rfl, by decide, by decide⟩
theorem flat_sg (ks : List Nat) : (ks.map fun k => [sg k]).flatten = ks.map sg := flat_one sg ks
def sp_leaf (K : PySem.W.Frag) : Sp := fun vs H Q _ => ∃ (b : Addr) (xs : List Int) (i : Int), vs = [.ref b, .int i] ∧ SqL K H b (xs.map V.int) ∧ 0 ≤ i ∧ i + 22 ≤ xs.length ∧ ∀ H' x p, Same H H' → Dp K H' x (patD p) → p.ok 20 → p.depth ≤ 1 → Q x H'
theorem G__law_leaf (T : Txt K mg w) : FnOk P w K mg base CX0 2 T.f__law_leaf T.fd__law_leaf ["numbers", "at"] (sp_leaf K) := by
  have G__law_pick := G__law_pick (P := P) (w := w) (base := base) T
  have G__law_signs := G__law_signs (P := P) (w := w) (base := base) T
  refine T.F__law_leaf.ok sc__law_leaf (fun vs H Q E h => ?_) (fun cdv A outer s H vs Q E hr h => ?_)
  · obtain ⟨b, xs, i, rfl, _⟩ := h
    rfl
  · obtain ⟨b, xs, i, rfl, hX, h0, hx, q⟩ := h
    refine ⟨_, ((pss_cons (ps_if (pt_cmpR op_eq (pe_call G__law_pick (hr.mono (by first | decide | omega)) (by rfl) T.g__law_pick T.F__law_pick.kp T.b__law_pick .nil pass0 (pa_cons (pv 0) (pa_cons (pv 1) (pa_cons pe_int pa_nil)))) pe_int (nomark _))
  (pss_one (ps_ret (pe_tup (pa_cons pe_str (pa_cons (pe_call G__law_signs (hr.mono (by first | decide | omega)) (by rfl) T.g__law_signs T.F__law_signs.kp T.b__law_signs .nil pass0 (pa_cons (pe_call G__law_pick (hr.mono (by first | decide | omega)) (by rfl) T.g__law_pick T.F__law_pick.kp T.b__law_pick .nil pass0 (pa_cons (pv 0) (pa_cons (pe_op op_add (pv 1) pe_int) (pa_cons pe_int pa_nil)))) pa_nil)) pa_nil)))))
  pss_nil)
  (pss_cons (ps_set (i := 2) sc__law_leaf.nd rfl (Or.inl rfl) (pe_ix ix_list (pe_lst (pa_cons pe_int (pa_cons pe_int (pa_cons pe_int (pa_cons pe_int (pa_cons pe_int (pa_cons pe_int (pa_cons pe_int (pa_cons pe_int pa_nil))))))))) (pe_call G__law_pick (hr.mono (by first | decide | omega)) (by rfl) T.g__law_pick T.F__law_pick.kp T.b__law_pick .nil pass0 (pa_cons (pv 0) (pa_cons (pe_op op_add (pv 1) pe_int) (pa_cons pe_int pa_nil)))) (fun _ _ => rfl)))
  (pss_one (ps_ret (pe_tup (pa_cons pe_str (pa_cons (Gx.pe_joinG pe_str (pe_lc (own := [("k", 3)]) (g := gName 3) (tt := tYes) (by rfl) sc__law_leaf.nd (pi_range1 rfl T.z_range (pa_cons (pv 2) pa_nil)) (blkOk_by (N := ["numbers", "at", "size", "k"]) (sc := defScope s__law_leaf) (by decide +kernel)) (fun _ _ _ _ _ => (pg_name (i := 3) sc__law_leaf.nd rfl (Or.inl rfl))) (fun _ _ _ _ _ => pts_nil) (fun _ _ _ _ _ => (pe_ix ix_str pe_str (pe_call G__law_pick (hr.mono (by first | decide | omega)) (by rfl) T.g__law_pick T.F__law_pick.kp T.b__law_pick .nil pass0 (pa_cons (pv 0) (pa_cons (pe_op op_add (pe_op op_add (pv 1) pe_int) (pv 3)) (pa_cons pe_int pa_nil)))) (fun _ _ => rfl))))) pa_nil)))))))), ?_⟩
    clear G__law_pick G__law_signs
    rw [st__law_leaf]
    try dsimp only [cxOf]
    walk_at "g"
    refine ⟨b, xs, _, _, rfl, hX, by omega, by omega, by omega, ?_⟩
    generalize pk0 xs _ _ = v1
    walk_at "g"
    refine Gx.iteD (fun _ => ?_) (fun _ => ?_)
    · walk_at "g"
      refine ⟨b, xs, _, _, rfl, hX, by omega, by omega, by omega, ?_⟩
      generalize pk0 xs _ _ = v2
      walk_at "g"
      refine ⟨_, rfl, by omega, fun H1 l s1 hl nd ll => ?_⟩
      refine Gx.newT (by show 2 ≤ 16777216; decide) fun p H2 E2 => ?_
      walk_at "g"
      exact q _ _ (.one l) (s1.trans E2.same) (.tup (SqT.of E2.at_) (.cons (.str _) (.cons (.str _) .nil))) ⟨hl, nd, ll⟩ (Nat.le_refl _)
    · walk_at "g"
      refine Gx.newL (by show 8 ≤ 16777216; decide) fun p H1 E1 => ?_
      have hX1 := E1.same.seq hX
      walk_at "g"
      refine ⟨b, xs, _, _, rfl, hX1, by omega, by omega, by omega, ?_⟩
      generalize hv2 : pk0 xs _ _ = v2
      have hv : v2 < 8 := by rw [← hv2]; exact pk0_lt xs _ (by decide)
      clear hv2
      obtain ⟨d, hd, d0, d20⟩ := size8 hv
      refine Gx.ixL (SqL.of E1.at_) (Gx.atI_of (k := v2) rfl hd) ?_
      walk_at "g"
      refine ⟨_, rfl, by omega, by omega, fun D nD => lc_range (lo := 0) (n := d.toNat) (fun j H' => Same H1 H' ∧ ∃ ks : List Nat, H' D = some (.lst (((ks.map fun k => [sg k]).map Gx.mkS).map V.str)) ∧ ks.length = j ∧ ∀ k ∈ ks, k < 5) ⟨Gx.Same.put (Same.refl H1) nD, [], upd_same, rfl, fun t h => (List.not_mem_nil h).elim⟩ ?_ ?_⟩
      · rintro j H9 hj ⟨s9, ks, e9, kl, kok⟩
        walk_at "g"
        refine ⟨rfl, ?_⟩
        walk_at "g"
        refine ⟨b, xs, _, _, rfl, s9.seq hX1, by omega, by omega, by omega, ?_⟩
        generalize hv : pk0 xs _ _ = v
        have hv' : v < 5 := by rw [← hv]; exact pk0_lt xs _ (by decide)
        walk_at "g"
        refine ⟨_, e9, Gx.lineL (by rw [List.length_map, List.length_map, List.length_map]; omega), Gx.Same.put s9 nD, ks ++ [v], ?_, by rw [List.length_append, kl]; rfl, fun t ht => ?_⟩
        · rw [upd_same, List.map_append, List.map_append, List.map_append]
          rfl
        · rcases List.mem_append.mp ht with h | h
          · exact kok t h
          · cases List.mem_singleton.mp h
            exact hv'
      · rintro H9 ⟨s9, ks, e9, kl, kok⟩
        walk_at "g"
        refine Gx.join0 (SqL.of e9) (by rw [flat_sg, List.length_map]; omega) ?_
        rw [flat_sg]
        refine Gx.newT (by show 2 ≤ 16777216; decide) fun p2 H2 E2 => ?_
        walk_at "g"
        refine q _ _ (.word (ks.map sg)) ((E1.same.trans s9).trans E2.same) (.tup (SqT.of E2.at_) (.cons (.str _) (.cons (.str _) .nil))) ⟨fun c hc => ?_, by rw [List.length_map]; omega⟩ (Nat.le_refl _)
        obtain ⟨k, hk, rfl⟩ := List.mem_map.mp hc
        exact sg_mem (kok k hk)
def sp_drawpat (K : PySem.W.Frag) : Sp := fun vs H Q _ => ∃ (b : Addr) (xs : List Int) (i : Int), vs = [.ref b, .int i] ∧ SqL K H b (xs.map V.int) ∧ 0 ≤ i ∧ i + 140 ≤ xs.length ∧ ∀ H' x p, Same H H' → Dp K H' x (patD p) → p.ok 20 → p.depth ≤ 20 → Q x H'
theorem G__law_pattern (T : Txt K mg w) : FnOk P w K mg base CX0 3 T.f__law_pattern T.fd__law_pattern ["numbers", "at"] (sp_drawpat K) := by
  have G__law_pick := G__law_pick (P := P) (w := w) (base := base) T
  have G__law_leaf := G__law_leaf (P := P) (w := w) (base := base) T
  refine T.F__law_pattern.ok sc__law_pattern (fun vs H Q E h => ?_) (fun cdv A outer s H vs Q E hr h => ?_)
  · obtain ⟨b, xs, i, rfl, _⟩ := h
    rfl
  · obtain ⟨b, xs, i, rfl, hX, h0, hx, q⟩ := h
    refine ⟨_, ((pss_cons (ps_set (i := 2) sc__law_pattern.nd rfl (Or.inl rfl) (pe_call G__law_leaf (hr.mono (by first | decide | omega)) (by rfl) T.g__law_leaf T.F__law_leaf.kp T.b__law_leaf .nil pass0 (pa_cons (pv 0) (pa_cons (pe_op op_add (pv 1) pe_int) pa_nil))))
  (pss_cons (ps_for PassesOwn.never rfl (pi_range1 rfl T.z_range (pa_cons (pe_call G__law_pick (hr.mono (by first | decide | omega)) (by rfl) T.g__law_pick T.F__law_pick.kp T.b__law_pick .nil pass0 (pa_cons (pv 0) (pa_cons (pv 1) (pa_cons pe_int pa_nil)))) pa_nil)) (pg_name (i := 3) sc__law_pattern.nd rfl (Or.inl rfl))
  (pss_cons (ps_set (i := 4) sc__law_pattern.nd rfl (Or.inl rfl) (pe_ix ix_list (pe_lst (pa_cons pe_str (pa_cons pe_str (pa_cons pe_str pa_nil)))) (pe_call G__law_pick (hr.mono (by first | decide | omega)) (by rfl) T.g__law_pick T.F__law_pick.kp T.b__law_pick .nil pass0 (pa_cons (pv 0) (pa_cons (pe_op op_add (pe_op op_add (pv 1) pe_int) (pe_op op_mul pe_int (pv 3))) (pa_cons pe_int pa_nil)))) (fun _ _ => rfl)))
  (pss_cons (ps_set (i := 5) sc__law_pattern.nd rfl (Or.inl rfl) (pe_call G__law_leaf (hr.mono (by first | decide | omega)) (by rfl) T.g__law_leaf T.F__law_leaf.kp T.b__law_leaf .nil pass0 (pa_cons (pv 0) (pa_cons (pe_op op_add (pe_op op_add (pv 1) pe_int) (pe_op op_mul pe_int (pv 3))) pa_nil))))
  (pss_one (ps_if (pt_cmpR op_eq (pv 4) pe_str (nomark _))
  (pss_one (ps_set (i := 2) sc__law_pattern.nd rfl (Or.inl rfl) (pe_tup (pa_cons pe_str (pa_cons (pv 2) pa_nil)))))
  (pss_one (ps_if (pt_cmpR op_eq (pe_call G__law_pick (hr.mono (by first | decide | omega)) (by rfl) T.g__law_pick T.F__law_pick.kp T.b__law_pick .nil pass0 (pa_cons (pv 0) (pa_cons (pe_op op_add (pe_op op_add (pv 1) pe_int) (pe_op op_mul pe_int (pv 3))) (pa_cons pe_int pa_nil)))) pe_int (nomark _))
  (pss_one (ps_set (i := 2) sc__law_pattern.nd rfl (Or.inl rfl) (pe_tup (pa_cons (pv 4) (pa_cons (pv 2) (pa_cons (pv 5) pa_nil))))))
  (pss_one (ps_set (i := 2) sc__law_pattern.nd rfl (Or.inl rfl) (pe_tup (pa_cons (pv 4) (pa_cons (pv 5) (pa_cons (pv 2) pa_nil)))))))))))))
  (pss_one (ps_ret (pv 2)))))), ?_⟩
    clear G__law_pick G__law_leaf
    rw [st__law_pattern]
    try dsimp only [cxOf]
    walk_at "g"
    refine ⟨b, xs, _, rfl, hX, by omega, by omega, fun H1 x1 p1 s1 hp1 ok1 dp1 => ?_⟩
    walk_at "g"
    refine ⟨b, xs, _, _, rfl, s1.seq hX, by omega, by omega, by omega, ?_⟩
    generalize hv0 : pk0 xs _ _ = v0
    have hv : v0 < 20 := by rw [← hv0]; exact pk0_lt xs _ (by decide)
    clear hv0
    walk_at "g"
    refine ⟨_, rfl, by omega, by omega, for_range (lo := 0) (n := (v0 : Int).toNat) (fun k σ H' => ∃ (x : V) (p : Pat) (y1 y2 y3 : Option V), Same H H' ∧ Dp K H' x (patD p) ∧ p.ok 20 ∧ p.depth ≤ k + 1 ∧ σ = [some (.ref b), some (.int i), some x, y1, y2, y3])
      ⟨x1, p1, _, _, _, s1, hp1, ok1, dp1, rfl⟩ ?_ ?_⟩
    · rintro k σ H2 hk ⟨x, p, y1, y2, y3, s2, hp, ok, dp, rfl⟩
      have hk' : k < v0 := by omega
      walk_at "g"
      refine Gx.newL (by show 3 ≤ 16777216; decide) fun pl H3 E3 => ?_
      walk_at "g"
      refine ⟨b, xs, _, _, rfl, E3.same.seq (s2.seq hX), by omega, by omega, by omega, ?_⟩
      generalize hv1 : pk0 xs _ _ = v1
      have hv3 : v1 < 3 := by rw [← hv1]; exact pk0_lt xs _ (by decide)
      clear hv1
      have hp3 := Gx.dp_same E3.same _ _ hp
      have s3 := s2.trans E3.same
      have hl : SqL K H3 pl _ := SqL.of E3.at_
      clear E3 hp s2
      obtain ⟨kd, hkd, hkk⟩ : ∃ kd, ([V.str (Gx.mkS seqS), V.str (Gx.mkS altS), V.str (Gx.mkS starS)] : List V)[v1]? = some (V.str (Gx.mkS kd)) ∧ (kd = starS ∨ (kd ≠ starS ∧ ∃ b, kd = if b = true then seqS else altS)) := by
        match v1, hv3 with
        | 0, _ => exact ⟨seqS, rfl, .inr ⟨by decide, true, rfl⟩⟩
        | 1, _ => exact ⟨altS, rfl, .inr ⟨by decide, false, rfl⟩⟩
        | 2, _ => exact ⟨starS, rfl, .inl rfl⟩
      refine Gx.ixL hl (Gx.atI_of (k := v1) rfl hkd) ?_
      walk_at "g"
      refine ⟨b, xs, _, rfl, s3.seq hX, by omega, by omega, fun H4 x4 p4 s4 hp4 ok4 dp4 => ?_⟩
      have hpx := Gx.dp_same s4 _ _ hp3
      have s04 := s3.trans s4
      clear hl s3 s4 hp3
      walk_at "g"
      rcases hkk with rfl | ⟨hne, bb, hkk⟩
      · rw [if_pos (by decide)]
        walk_at "g"
        refine Gx.newT (by show 2 ≤ 16777216; decide) fun u H5 E5 => ?_
        walk_at "g"
        exact ⟨_, .star p, _, _, _, s04.trans E5.same, .tup (SqT.of E5.at_) (.cons (.str _) (.cons (Gx.dp_same E5.same _ _ hpx) .nil)), ok, by show p.depth + 1 ≤ _; omega, rfl⟩
      · rw [if_neg (by rw [decide_eq_true_eq]; exact hne)]
        walk_at "g"
        refine ⟨b, xs, _, _, rfl, s04.seq hX, by omega, by omega, by omega, ?_⟩
        generalize pk0 xs _ _ = v2
        walk_at "g"
        refine Gx.iteD (fun _ => ?_) (fun _ => ?_)
        · walk_at "g"
          refine Gx.newT (by show 3 ≤ 16777216; decide) fun u H5 E5 => ?_
          walk_at "g"
          refine ⟨_, .two bb p p4, _, _, _, s04.trans E5.same, .tup (SqT.of E5.at_) (.cons (by rw [hkk]; exact .str _) (.cons (Gx.dp_same E5.same _ _ hpx) (.cons (Gx.dp_same E5.same _ _ hp4) .nil))), ⟨ok, ok4⟩, by show max p.depth p4.depth + 1 ≤ _; omega, rfl⟩
        · walk_at "g"
          refine Gx.newT (by show 3 ≤ 16777216; decide) fun u H5 E5 => ?_
          walk_at "g"
          refine ⟨_, .two bb p4 p, _, _, _, s04.trans E5.same, .tup (SqT.of E5.at_) (.cons (by rw [hkk]; exact .str _) (.cons (Gx.dp_same E5.same _ _ hp4) (.cons (Gx.dp_same E5.same _ _ hpx) .nil))), ⟨ok4, ok⟩, by show max p4.depth p.depth + 1 ≤ _; omega, rfl⟩
    · rintro σ H2 ⟨x, p, y1, y2, y3, s2, hp, ok, dp, rfl⟩
      walk_at "g"
      exact q _ _ p s2 hp ok (by omega)
end
end K03
namespace K03
open PySem PySem.Spec PyProof.Rows L2
local macro_rules | `(tactic| walk_at "con") => `(tactic| first | with_reducible refine Gx.conE K03.ks0 ?_ | with_reducible refine Gx.conE K03.ks1 ?_ | with_reducible refine Gx.conE K03.ks2 ?_ | with_reducible refine Gx.conE K03.ks3 ?_ | with_reducible refine Gx.conE K03.ks4 ?_ | with_reducible refine Gx.conE K03.ks5 ?_ | with_reducible refine Gx.conE K03.ks6 ?_ | with_reducible refine Gx.conE K03.ks7 ?_ | with_reducible refine Gx.conE K03.ks8 ?_ | with_reducible refine Gx.conE K03.ks9 ?_ | with_reducible refine Gx.conE K03.ks10 ?_ | with_reducible refine Gx.conE K03.ks11 ?_ | with_reducible refine Gx.conE K03.ks12 ?_ | with_reducible refine Gx.conE K03.ks13 ?_ | with_reducible refine Gx.conE K03.ks14 ?_ | with_reducible refine Gx.conE K03.ks15 ?_)
section
variable {P : Program} {w : World} {K : PySem.W.Frag} {mg : Str → Option Value} {base : Heap}
/-- a text of at most 200 characters -/
def StrV (x : V) : Prop := ∃ l, x = .str (Gx.mkS l) ∧ Gx.Cp l ∧ l.length ≤ 200
theorem StrV.of {l : List Nat} (h : Gx.Cp l) (n : l.length ≤ 200) : StrV (.str (Gx.mkS l)) := ⟨l, rfl, h, n⟩
/-- none, a number, a list, a tuple -/
def NoS (K : PySem.W.Frag) (H : Hp) (x : V) : Prop := x = .non ∨ (∃ i, x = .int i) ∨ ∃ a xs, x = .ref a ∧ (SqL K H a xs ∨ SqT K H a xs)
theorem NoS.same {H H' : Hp} {x : V} (h : NoS K H x) (e : Same H H') : NoS K H' x := by
  rcases h with h | h | ⟨a, xs, h, c⟩
  · exact .inl h
  · exact .inr (.inl h)
  · exact .inr (.inr ⟨a, xs, h, c.elim (fun z => .inl (e.seq z)) fun z => .inr (e.seqT z)⟩)
theorem NoS.no {H : Hp} {x : V} (h : NoS K H x) : NoStr K H x := by
  rcases h with rfl | ⟨i, rfl⟩ | ⟨a, xs, rfl, c | c⟩
  · exact ⟨_, .base .non, kit_ty (by decide +kernel)⟩
  · exact ⟨_, .base (.int i), kit_ty (by decide +kernel)⟩
  · exact ⟨_, Gx.tyX_L c, kit_ty (by decide +kernel)⟩
  · exact ⟨_, Gx.tyX_T c, kit_ty (by decide +kernel)⟩
theorem all_filter (l : List Nat) : (l.all fun c => (plc c).isSome) = decide (l.filter (fun c => !decide (c ∈ sgs)) = []) := by
  rw [Bool.eq_iff_iff, List.all_eq_true, decide_eq_true_eq, List.filter_eq_nil_iff]
  constructor
  · intro h c hc
    have := plc_mem.mp (h c hc)
    simp [this]
  · intro h c hc
    have := h c hc
    simp only [Bool.not_eq_true', decide_eq_false_iff_not, Decidable.not_not] at this
    exact plc_mem.mpr this
theorem cp_one {c : Nat} (h : c < 1114112) : Gx.Cp [c] := fun x hx => by rw [List.mem_singleton.mp hx]; exact h
theorem cp_nil : Gx.Cp [] := fun x hx => (List.not_mem_nil hx).elim
theorem Cp.snoc {l : List Nat} {c : Nat} (h : Gx.Cp l) (hc : c < 1114112) : Gx.Cp (l ++ [c]) := h.app (cp_one hc)
theorem Cp.filt {l : List Nat} (h : Gx.Cp l) (f : Nat → Bool) : Gx.Cp (l.filter f) := fun c hc => h c (List.mem_filter.mp hc).1
def sp_ttold (K : PySem.W.Frag) : Sp := fun vs H Q _ => ∃ (b : Addr) (xs : List Int) (l : List Nat), vs = [.str (Gx.mkS l), .ref b] ∧ SqL K H b (xs.map V.int) ∧ xs.length = 300 ∧ Sg l ∧ l.length ≤ 60 ∧ ∀ H', Same H H' → Q (.bl true) H'
set_option maxHeartbeats 2000000 in
theorem G__law_texts_told (T : Txt K mg w) : FnOk P w K mg base CX0 3 T.f__law_texts_told T.fd__law_texts_told ["text", "numbers"] (sp_ttold K) := by
  have G__law_pick := G__law_pick (P := P) (w := w) (base := base) T
  have G__law_foreign := G__law_foreign (P := P) (w := w) (base := base) T
  have G__law_char := G__law_char (P := P) (w := w) (base := base) T
  have G__law_says := G__law_says (P := P) (w := w) (base := base) T
  have G_is_text := G_is_text (P := P) (w := w) (base := base) T
  refine T.F__law_texts_told.ok sc__law_texts_told (fun vs H Q E h => ?_) (fun cdv A outer s H vs Q E hr h => ?_)
  · obtain ⟨b, xs, l, rfl, _⟩ := h
    rfl
  · obtain ⟨b, xs, l, rfl, hX, hx, hsg, hll, q⟩ := h
    refine ⟨_, ((pss_cons (ps_set (i := 2) sc__law_texts_told.nd rfl (Or.inr rfl) (pe_call0 G__law_foreign (hr.mono (by first | decide | omega)) (by rfl) T.g__law_foreign T.F__law_foreign.kp T.b__law_foreign .nil pass0))
  (pss_cons (ps_set (i := 3) sc__law_texts_told.nd rfl (Or.inl rfl) (pe_call G__law_pick (hr.mono (by first | decide | omega)) (by rfl) T.g__law_pick T.F__law_pick.kp T.b__law_pick .nil pass0 (pa_cons (pv 1) (pa_cons pe_int (pa_cons (pe_op op_add (pe_callB Gx.cr_lenS (by rfl) T.z_len bt_len (pa_cons (pv 0) pa_nil)) pe_int) pa_nil)))))
  (pss_cons (ps_set (i := 4) sc__law_texts_told.nd rfl (Or.inl rfl) (pe_call G__law_char (hr.mono (by first | decide | omega)) (by rfl) T.g__law_char T.F__law_char.kp T.b__law_char .nil pass0 (pa_cons (pv 1) (pa_cons pe_int (pa_cons (pv 2) pa_nil)))))
  (pss_cons (ps_set (i := 5) sc__law_texts_told.nd rfl (Or.inl rfl) (Gx.pe_joinG pe_str (pe_lc (own := [("k", 6)]) (g := gName 6) (tt := tYes) (by rfl) sc__law_texts_told.nd (pi_range1 rfl T.z_range (pa_cons (pe_call G__law_pick (hr.mono (by first | decide | omega)) (by rfl) T.g__law_pick T.F__law_pick.kp T.b__law_pick .nil pass0 (pa_cons (pv 1) (pa_cons pe_int (pa_cons pe_int pa_nil)))) pa_nil)) (blkOk_by (N := ["text", "numbers", "foreign", "at", "char", "free", "k", "strings", "value", "one", "others", "sign"]) (sc := defScope s__law_texts_told) (by decide +kernel)) (fun _ _ _ _ _ => (pg_name (i := 6) sc__law_texts_told.nd rfl (Or.inl rfl))) (fun _ _ _ _ _ => pts_nil) (fun _ _ _ _ _ => (pe_call G__law_char (hr.mono (by first | decide | omega)) (by rfl) T.g__law_char T.F__law_char.kp T.b__law_char .nil pass0 (pa_cons (pv 1) (pa_cons (pe_op op_add pe_int (pe_op op_mul pe_int (pv 6))) (pa_cons (pe_op Gx.op_addS (pv 2) pe_str) pa_nil))))))))
  (pss_cons (ps_set (i := 7) sc__law_texts_told.nd rfl (Or.inl rfl) (pe_lst (pa_cons pe_str (pa_cons (pv 0) (pa_cons (pe_slice sl_str (pe_op Gx.op_addS (pe_op Gx.op_addS (pe_slice sl_str (pv 0) po_none (po_some (pv 3))) (pv 4)) (pe_slice sl_str (pv 0) (po_some (pv 3)) po_none)) po_none (po_some pe_int)) (pa_cons (pe_op Gx.op_addS (pe_op Gx.op_addS (pe_slice sl_str (pv 0) po_none (po_some (pv 3))) (pv 4)) (pe_slice sl_str (pv 0) (po_some (pe_op op_add (pv 3) pe_int)) po_none)) (pa_cons (pv 4) (pa_cons (pv 5) pa_nil))))))))
  (pss_cons (ps_for PassesOwn.never rfl (pi_list (pv 7)) (pg_name (i := 8) sc__law_texts_told.nd rfl (Or.inl rfl))
  (pss_one (ps_if (pt_not (pt_val (pe_call G__law_says (hr.mono (by first | decide | omega)) (by rfl) T.g__law_says T.F__law_says.kp T.b__law_says .nil pass0 (pa_cons (pe_call G_is_text (hr.mono (by first | decide | omega)) (by rfl) T.g_is_text T.F_is_text.kp T.b_is_text .nil pass0 (pa_cons (pv 8) pa_nil)) (pa_cons (pe_cmpR (op_eqD hr.units) (pe_lc (own := [("one", 9)]) (g := gName 9)  (by rfl) sc__law_texts_told.nd (pi_str (pv 8)) (blkOk_by (N := ["text", "numbers", "foreign", "at", "char", "free", "k", "strings", "value", "one", "others", "sign"]) (sc := defScope s__law_texts_told) (by decide +kernel)) (fun _ _ _ _ _ => (pg_name (i := 9) sc__law_texts_told.nd rfl (Or.inl rfl))) (fun _ _ _ _ _ => (pts_one (pt_cmpR Gx.op_notInSg (pv 9) pe_str rfl))) (fun _ _ _ _ _ => (pv 9))) (pe_lst pa_nil) (nomark _)) pa_nil)))))
  (pss_one (ps_ret pe_bl))
  pss_nil)))
  (pss_cons (ps_set (i := 10) sc__law_texts_told.nd rfl (Or.inl rfl) (pe_lst (pa_cons pe_non (pa_cons (pe_callB Gx.cr_lenS (by rfl) T.z_len bt_len (pa_cons (pv 0) pa_nil)) (pa_cons (pe_lst pa_nil) (pa_cons (pe_tup pa_nil) (pa_cons (pe_lc (own := [("sign", 11)]) (g := gName 11) (tt := tYes) (by rfl) sc__law_texts_told.nd (pi_str (pv 0)) (blkOk_by (N := ["text", "numbers", "foreign", "at", "char", "free", "k", "strings", "value", "one", "others", "sign"]) (sc := defScope s__law_texts_told) (by decide +kernel)) (fun _ _ _ _ _ => (pg_name (i := 11) sc__law_texts_told.nd rfl (Or.inl rfl))) (fun _ _ _ _ _ => pts_nil) (fun _ _ _ _ _ => (pv 11))) (pa_cons (pe_callTy Gx.cr_tupL (by rfl) T.z_tuple bt_tuple (pa_cons (pe_lc (own := [("sign", 11)]) (g := gName 11) (tt := tYes) (by rfl) sc__law_texts_told.nd (pi_str (pv 0)) (blkOk_by (N := ["text", "numbers", "foreign", "at", "char", "free", "k", "strings", "value", "one", "others", "sign"]) (sc := defScope s__law_texts_told) (by decide +kernel)) (fun _ _ _ _ _ => (pg_name (i := 11) sc__law_texts_told.nd rfl (Or.inl rfl))) (fun _ _ _ _ _ => pts_nil) (fun _ _ _ _ _ => (pv 11))) pa_nil)) (pa_cons (pe_lst (pa_cons (pv 0) pa_nil)) (pa_cons (pe_tup (pa_cons (pv 0) pa_nil)) pa_nil))))))))))
  (pss_cons (ps_for PassesOwn.never rfl (pi_list (pv 10)) (pg_name (i := 8) sc__law_texts_told.nd rfl (Or.inl rfl))
  (pss_one (ps_if (pt_not (pt_val (pe_call G__law_says (hr.mono (by first | decide | omega)) (by rfl) T.g__law_says T.F__law_says.kp T.b__law_says .nil pass0 (pa_cons (pe_call G_is_text (hr.mono (by first | decide | omega)) (by rfl) T.g_is_text T.F_is_text.kp T.b_is_text .nil pass0 (pa_cons (pv 8) pa_nil)) (pa_cons pe_bl pa_nil)))))
  (pss_one (ps_ret pe_bl))
  pss_nil)))
  (pss_one (ps_ret pe_bl))))))))))), ?_⟩
    clear G__law_pick G__law_foreign G__law_char G__law_says G_is_text
    have hfl : frn.length = 89 := rfl
    have hcp := hsg.cp
    rw [st__law_texts_told]
    try dsimp only [cxOf]
    walk_at "g"
    refine ⟨rfl, ?_⟩
    walk_at "g"
    refine ⟨b, xs, _, _, rfl, hX, by omega, by omega, by omega, ?_⟩
    generalize pk0 xs _ _ = v
    walk_at "g"
    refine ⟨b, xs, _, frn, rfl, hX, by omega, by omega, by omega, by omega, fun c hc => ?_⟩
    have hc1 := cp_one (frn_no c hc).2
    walk_at "g"
    refine ⟨b, xs, _, _, rfl, hX, by omega, by omega, by omega, ?_⟩
    generalize hv0 : pk0 xs _ _ = v1
    have hv1 : v1 < 6 := by rw [← hv0]; exact pk0_lt xs _ (by decide)
    clear hv0
    walk_at "g"
    refine ⟨_, rfl, by omega, by omega, fun D nD => lc_range (lo := 0) (n := ((v1 : Nat) : Int).toNat) (fun j H' => Same H H' ∧ ∃ fr : List Nat, H' D = some (.lst (Gx.signV fr)) ∧ fr.length = j ∧ Gx.Cp fr) ⟨Gx.Same.put (Same.refl H) nD, [], upd_same, rfl, cp_nil⟩ ?_ ?_⟩
    · rintro j H1 hj ⟨s1, fr, e1, fl, fc⟩
      have hj' : j < v1 := by omega
      walk_at "g"
      refine ⟨rfl, ?_⟩
      walk_at "g"
      refine ⟨b, xs, _, frn ++ [58, 59, 97, 98, 99], rfl, s1.seq hX, by omega, by omega, by simp, by rw [List.length_append, hfl]; decide, fun d hd => ?_⟩
      have hd' : d < 1114112 := by
        rcases List.mem_append.mp hd with h | h
        · exact (frn_no d h).2
        · exact sgs_cp d h
      refine ⟨_, e1, Gx.lineL (by rw [signV_len]; show _ < 16777216; omega), Gx.Same.put s1 nD, fr ++ [d], by rw [upd_same, signV_snoc], by rw [List.length_append, fl]; rfl, Cp.snoc fc hd'⟩
    · rintro H1 ⟨s1, fr, e1, fl, fc⟩
      replace fl : fr.length < 6 := by omega
      walk_at "g"
      refine Gx.join0 (ls := fr.map fun c => [c]) (SqL.of (by rw [e1, signV_strs])) (by rw [flat_one, List.map_id']; omega) ?_
      rw [flat_one, List.map_id']
      walk_at "g"
      refine Gx.newL (by show 6 ≤ 16777216; decide) fun ps H2 E2 => ?_
      have s2 := s1.trans E2.same
      obtain ⟨ss, hss, e2⟩ : ∃ ss, (∀ x ∈ ss, StrV x) ∧ H2 ps = some (.lst ss) := by
        refine ⟨_, ?_, E2.at_⟩
        intro x hx
        simp only [List.mem_cons, List.not_mem_nil, or_false] at hx
        rcases hx with rfl | rfl | rfl | rfl | rfl | rfl
        all_goals refine StrV.of ?_ (by (try simp only [List.length_append, List.length_take, List.length_drop, List.length_cons, List.length_nil]); omega)
        all_goals repeat' first | exact cp_nil | assumption | apply Gx.Cp.app | apply Gx.Cp.take | apply Gx.Cp.drop
      clear E2 s1 e1 nD
      have hq2 : SqL K H2 ps ss := SqL.of e2
      walk_at "g"
      refine ⟨⟨_, hq2⟩, for_list (K := K) (a := ps) (xs := ss) (fun i σ H' => ∃ y : Option V, Same H2 H' ∧ σ = [some (.str (Gx.mkS l)), some (.ref b), some (.str (Gx.mkS frn)), some (.int (v : Nat)), some (.str (Gx.mkS [c])), some (.str (Gx.mkS fr)), none, some (.ref ps), y, none, none, none])
        ⟨_, Same.refl H2, rfl⟩ (fun i σ H' _ ⟨_, z, _⟩ => z.seq hq2) ?_ ?_⟩
      · rintro i x σ H3 hi ⟨y, s3, rfl⟩
        obtain ⟨t, rfl, tc, tl⟩ := hss x (List.mem_of_getElem? hi)
        walk_at "g"
        refine .inl ⟨t, rfl, ?_⟩
        walk_at "g"
        refine fun D nD => Gx.lc_str (l := t) (fun i H' => Same H3 H' ∧ H' D = some (.lst (Gx.signV ((t.take i).filter fun c => !decide (c ∈ sgs))))) ⟨Gx.Same.put (Same.refl H3) nD, upd_same⟩ ?_ ?_
        · rintro i d H4 hd ⟨s4, e4⟩
          have hil := (List.getElem?_eq_some_iff.mp hd).1
          walk_at "g"
          refine ⟨rfl, ?_⟩
          walk_at "g"
          rw [filt_snoc _ hd]
          refine Gx.iteDn (fun hm => ?_) (fun hm => ?_)
          · rw [if_pos (by rw [Bool.not_eq_true', decide_eq_false_iff_not]; exact hm)]
            walk_at "g"
            refine ⟨_, e4, Gx.lineL ?_, Gx.Same.put s4 nD, by rw [upd_same, signV_snoc]⟩
            rw [signV_len]
            have := List.length_filter_le (fun c => !decide (c ∈ sgs)) (t.take i)
            rw [List.length_take] at this
            show _ < 16777216
            omega
          · rw [if_neg (by rw [Bool.not_eq_true', decide_eq_false_iff_not, Decidable.not_not]; exact hm), List.append_nil]
            exact ⟨s4, e4⟩
        · rintro H4 ⟨s4, e4⟩
          rw [List.take_length] at e4
          walk_at "g"
          refine Gx.newL (by show 0 ≤ 16777216; decide) fun p5 H5 E5 => ?_
          refine ⟨strsD _, strsD [], .lst (SqL.of (E5.same _ _ e4)) (dp_signs _), .lst (SqL.of E5.at_) .nil, shaped_signs (Cp.filt tc _), shaped_signs cp_nil, ?_⟩
          rw [eqv_signs, ← all_filter]
          walk_at "g"
          refine ⟨_, _, rfl, ?_⟩
          rw [beq_self_eq_true]
          walk_at "g"
          exact ⟨_, (s3.trans s4).trans E5.same, rfl⟩
      · rintro σ H3 ⟨y, s3, rfl⟩
        have s03 := s2.trans s3
        clear hss hq2 e2 s2 s3
        walk_at "g"
        refine Gx.newL (by show 0 ≤ 16777216; decide) fun pa H4 E4 => ?_
        walk_at "g"
        refine Gx.newT (by show 0 ≤ 16777216; decide) fun pb H5 E5 => ?_
        walk_at "g"
        refine fun D nD => Gx.lc_str (l := l) (fun i H' => Same H5 H' ∧ H' D = some (.lst (Gx.signV (l.take i)))) ⟨Gx.Same.put (Same.refl H5) nD, upd_same⟩ ?_ ?_
        · rintro i d H6 hd ⟨s6, e6⟩
          have hil := (List.getElem?_eq_some_iff.mp hd).1
          walk_at "g"
          refine ⟨rfl, ?_⟩
          walk_at "g"
          refine ⟨_, e6, Gx.lineL (by rw [signV_len, List.length_take]; show _ < 16777216; omega), Gx.Same.put s6 nD, ?_⟩
          rw [upd_same, List.take_add_one, hd, Option.toList_some, signV_snoc]
        · rintro H6 ⟨s6, e6⟩
          rw [List.take_length] at e6
          clear nD
          walk_at "g"
          refine fun D2 nD => Gx.lc_str (l := l) (fun i H' => Same H6 H' ∧ H' D2 = some (.lst (Gx.signV (l.take i)))) ⟨Gx.Same.put (Same.refl H6) nD, upd_same⟩ ?_ ?_
          · rintro i d H7 hd ⟨s7, e7⟩
            have hil := (List.getElem?_eq_some_iff.mp hd).1
            walk_at "g"
            refine ⟨rfl, ?_⟩
            walk_at "g"
            refine ⟨_, e7, Gx.lineL (by rw [signV_len, List.length_take]; show _ < 16777216; omega), Gx.Same.put s7 nD, ?_⟩
            rw [upd_same, List.take_add_one, hd, Option.toList_some, signV_snoc]
          · rintro H7 ⟨s7, e7⟩
            rw [List.take_length] at e7
            clear nD
            walk_at "g"
            refine Gx.tupL (SqL.of e7) (fun pt nt => ?_)
            have E8 := Gx.ext1 (o := .tup (Gx.signV l)) nt
            generalize upd H7 pt (.tup (Gx.signV l)) = H8 at E8 ⊢
            walk_at "g"
            refine Gx.newL (by show 1 ≤ 16777216; decide) fun pl H9 E9 => ?_
            walk_at "g"
            refine Gx.newT (by show 1 ≤ 16777216; decide) fun pu HA EA => ?_
            walk_at "g"
            refine Gx.newL (by show 8 ≤ 16777216; decide) fun po HB EB => ?_
            have t9 := EA.same.trans EB.same
            have t8 := E9.same.trans t9
            have t7 := E8.same.trans t8
            have t6 := s7.trans t7
            have t5 := s6.trans t6
            have t4 := E5.same.trans t5
            have s0B := s03.trans (E4.same.trans t4)
            obtain ⟨os, hos, eB⟩ : ∃ os, (∀ x ∈ os, NoS K HB x) ∧ HB po = some (.lst os) := by
              refine ⟨_, ?_, EB.at_⟩
              intro x hx
              simp only [List.mem_cons, List.not_mem_nil, or_false] at hx
              rcases hx with rfl | rfl | rfl | rfl | rfl | rfl | rfl | rfl
              · exact .inl rfl
              · exact .inr (.inl ⟨_, rfl⟩)
              · exact .inr (.inr ⟨_, _, rfl, .inl (SqL.of (t4 _ _ E4.at_))⟩)
              · exact .inr (.inr ⟨_, _, rfl, .inr (SqT.of (t5 _ _ E5.at_))⟩)
              · exact .inr (.inr ⟨_, _, rfl, .inl (SqL.of (t6 _ _ e6))⟩)
              · exact .inr (.inr ⟨_, _, rfl, .inr (SqT.of (t8 _ _ E8.at_))⟩)
              · exact .inr (.inr ⟨_, _, rfl, .inl (SqL.of (t9 _ _ E9.at_))⟩)
              · exact .inr (.inr ⟨_, _, rfl, .inr (SqT.of (EB.same _ _ EA.at_))⟩)
            clear t4 t5 t6 t7 t8 t9 EB EA E9 E8 E5 E4 s6 s7 e6 e7 s03
            have hqB : SqL K HB po os := SqL.of eB
            walk_at "g"
            refine ⟨⟨_, hqB⟩, for_list (K := K) (a := po) (xs := os) (fun i σ H' => ∃ y : Option V, H' = HB ∧ σ = [some (.str (Gx.mkS l)), some (.ref b), some (.str (Gx.mkS frn)), some (.int (v : Nat)), some (.str (Gx.mkS [c])), some (.str (Gx.mkS fr)), none, some (.ref ps), y, none, some (.ref po), none])
              ⟨_, rfl, rfl⟩ (fun i σ H' _ ⟨_, z, _⟩ => by rw [z]; exact hqB) ?_ ?_⟩
            · rintro i x σ H3 hi ⟨y, rfl, rfl⟩
              walk_at "g"
              refine .inr ⟨x, rfl, (hos x (List.mem_of_getElem? hi)).no, ?_⟩
              walk_at "g"
              refine ⟨_, _, rfl, ?_⟩
              walk_at "g"
              exact ⟨_, rfl, rfl⟩
            · rintro σ H3 ⟨y, rfl, rfl⟩
              walk_at "g"
              exact q _ s0B
end
end K03
namespace K03
open PySem PySem.Spec PyProof.Rows L2
local macro_rules | `(tactic| walk_at "con") => `(tactic| first | with_reducible refine Gx.conE K03.ks0 ?_ | with_reducible refine Gx.conE K03.ks1 ?_ | with_reducible refine Gx.conE K03.ks2 ?_ | with_reducible refine Gx.conE K03.ks3 ?_ | with_reducible refine Gx.conE K03.ks4 ?_ | with_reducible refine Gx.conE K03.ks5 ?_ | with_reducible refine Gx.conE K03.ks6 ?_ | with_reducible refine Gx.conE K03.ks7 ?_ | with_reducible refine Gx.conE K03.ks8 ?_ | with_reducible refine Gx.conE K03.ks9 ?_ | with_reducible refine Gx.conE K03.ks10 ?_ | with_reducible refine Gx.conE K03.ks11 ?_ | with_reducible refine Gx.conE K03.ks12 ?_ | with_reducible refine Gx.conE K03.ks13 ?_ | with_reducible refine Gx.conE K03.ks14 ?_ | with_reducible refine Gx.conE K03.ks15 ?_)
section
variable {P : Program} {w : World} {K : PySem.W.Frag} {mg : Str → Option Value} {base : Heap}
theorem sub_perm : ∀ (s l : List Nat), s.Nodup → (∀ c ∈ s, c ∈ l) → l.length = s.length → l.Perm s
  | [], l, _, _, h => by
    have : l = [] := List.length_eq_zero_iff.mp h
    subst this
    exact List.Perm.refl _
  | x :: s, l, nd, h, hl => by
    have hx := h x List.mem_cons_self
    have nd' := List.nodup_cons.mp nd
    refine (List.perm_cons_erase hx).trans (List.Perm.cons x (sub_perm s (l.erase x) nd'.2 (fun c hc => ?_) ?_))
    · exact (List.mem_erase_of_ne (fun e : c = x => nd'.1 (e ▸ hc))).mpr (h c (List.mem_cons_of_mem _ hc))
    · rw [List.length_erase_of_mem hx, hl]
      rfl
theorem perm_iff (t : List Nat) : t.Perm sgs ↔ t.length = 5 ∧ sgs.filter (fun c => !decide (c ∈ t)) = [] := by
  rw [List.filter_eq_nil_iff]
  constructor
  · intro h
    refine ⟨h.length_eq, fun c hc => ?_⟩
    simp [h.mem_iff.mpr hc]
  · rintro ⟨h1, h2⟩
    refine sub_perm sgs t (by decide) (fun c hc => ?_) h1
    have := h2 c hc
    simpa using this
def sp_rtold (K : PySem.W.Frag) : Sp := fun vs H Q _ => ∃ (b : Addr) (xs : List Int) (to : List Nat), vs = [.str (Gx.mkS to), .ref b] ∧ SqL K H b (xs.map V.int) ∧ xs.length = 300 ∧ Ren to ∧ ∀ H', Same H H' → Q (.bl true) H'
/-- a list of texts -/
def StrL (H : Hp) (p : Addr) (ss : List V) : Prop := H p = some (.lst ss) ∧ ss.length ≤ 20 ∧ ∀ x ∈ ss, StrV x
set_option maxHeartbeats 2000000 in
theorem G__law_renamings_told (T : Txt K mg w) : FnOk P w K mg base CX0 3 T.f__law_renamings_told T.fd__law_renamings_told ["to", "numbers"] (sp_rtold K) := by
  have G__law_pick := G__law_pick (P := P) (w := w) (base := base) T
  have G__law_foreign := G__law_foreign (P := P) (w := w) (base := base) T
  have G__law_char := G__law_char (P := P) (w := w) (base := base) T
  have G__law_says := G__law_says (P := P) (w := w) (base := base) T
  have G_is_renaming := G_is_renaming (P := P) (w := w) (base := base) T
  refine T.F__law_renamings_told.ok sc__law_renamings_told (fun vs H Q E h => ?_) (fun cdv A outer s H vs Q E hr h => ?_)
  · obtain ⟨b, xs, l, rfl, _⟩ := h
    rfl
  · obtain ⟨b, xs, to, rfl, hX, hx, ht, q⟩ := h
    refine ⟨_, ((pss_cons (ps_set (i := 2) sc__law_renamings_told.nd rfl (Or.inl rfl) (pe_call G__law_pick (hr.mono (by first | decide | omega)) (by rfl) T.g__law_pick T.F__law_pick.kp T.b__law_pick .nil pass0 (pa_cons (pv 1) (pa_cons pe_int (pa_cons pe_int pa_nil)))))
  (pss_cons (ps_set (i := 3) sc__law_renamings_told.nd rfl (Or.inl rfl) (pe_ix ix_str pe_str (pe_call G__law_pick (hr.mono (by first | decide | omega)) (by rfl) T.g__law_pick T.F__law_pick.kp T.b__law_pick .nil pass0 (pa_cons (pv 1) (pa_cons pe_int (pa_cons pe_int pa_nil)))) (fun _ _ => rfl)))
  (pss_cons (ps_set (i := 4) sc__law_renamings_told.nd rfl (Or.inl rfl) (pe_call G__law_char (hr.mono (by first | decide | omega)) (by rfl) T.g__law_char T.F__law_char.kp T.b__law_char .nil pass0 (pa_cons (pv 1) (pa_cons pe_int (pa_cons (pe_call0 G__law_foreign (hr.mono (by first | decide | omega)) (by rfl) T.g__law_foreign T.F__law_foreign.kp T.b__law_foreign .nil pass0) pa_nil)))))
  (pss_cons (ps_set (i := 5) sc__law_renamings_told.nd rfl (Or.inl rfl) (Gx.pe_joinG pe_str (pe_lc (own := [("k", 6)]) (g := gName 6) (tt := tYes) (by rfl) sc__law_renamings_told.nd (pi_range1 rfl T.z_range (pa_cons pe_int pa_nil)) (blkOk_by (N := ["to", "numbers", "at", "sign", "char", "drawn", "k", "strings", "word", "due", "one"]) (sc := defScope s__law_renamings_told) (by decide +kernel)) (fun _ _ _ _ _ => (pg_name (i := 6) sc__law_renamings_told.nd rfl (Or.inl rfl))) (fun _ _ _ _ _ => pts_nil) (fun _ _ _ _ _ => (pe_ix ix_str pe_str (pe_call G__law_pick (hr.mono (by first | decide | omega)) (by rfl) T.g__law_pick T.F__law_pick.kp T.b__law_pick .nil pass0 (pa_cons (pv 1) (pa_cons (pe_op op_add pe_int (pv 6)) (pa_cons pe_int pa_nil)))) (fun _ _ => rfl))))))
  (pss_cons (ps_set (i := 7) sc__law_renamings_told.nd rfl (Or.inl rfl) (pe_lst (pa_cons (pv 0) (pa_cons pe_str (pa_cons (pv 5) (pa_cons (pe_slice sl_str (pv 5) po_none (po_some (pv 2))) (pa_cons (pe_op Gx.op_addS (pe_slice sl_str (pv 0) (po_some pe_int) po_none) (pe_slice sl_str (pv 0) po_none (po_some pe_int))) (pa_cons (pe_op Gx.op_addS (pv 0) (pv 0)) (pa_cons (pe_op Gx.op_addS (pe_slice sl_str (pv 0) po_none (po_some (pv 2))) (pe_slice sl_str (pv 0) (po_some (pe_op op_add (pv 2) pe_int)) po_none)) pa_nil)))))))))
  (pss_cons (ps_set (i := 7) sc__law_renamings_told.nd rfl (Or.inl rfl) (pe_op op_cat (pv 7) (pe_lst (pa_cons (pe_op Gx.op_addS (pe_op Gx.op_addS (pe_slice sl_str (pv 0) po_none (po_some (pv 2))) (pv 3)) (pe_slice sl_str (pv 0) (po_some (pe_op op_add (pv 2) pe_int)) po_none)) (pa_cons (pe_op Gx.op_addS (pe_op Gx.op_addS (pe_slice sl_str (pv 0) po_none (po_some (pv 2))) (pv 3)) (pe_slice sl_str (pv 0) (po_some (pv 2)) po_none)) (pa_cons (pe_op Gx.op_addS (pe_op Gx.op_addS (pe_slice sl_str (pv 0) po_none (po_some (pv 2))) (pv 4)) (pe_slice sl_str (pv 0) (po_some (pe_op op_add (pv 2) pe_int)) po_none)) pa_nil))))))
  (pss_cons (ps_set (i := 7) sc__law_renamings_told.nd rfl (Or.inl rfl) (pe_op op_cat (pv 7) (pe_lst (pa_cons (pe_op Gx.op_addS (pe_op Gx.op_addS (pe_slice sl_str (pv 0) po_none (po_some (pv 2))) (pv 4)) (pe_slice sl_str (pv 0) (po_some (pv 2)) po_none)) pa_nil))))
  (pss_cons (ps_for PassesOwn.never rfl (pi_list (pv 7)) (pg_name (i := 8) sc__law_renamings_told.nd rfl (Or.inr rfl))
  (pss_cons (ps_set (i := 9) sc__law_renamings_told.nd rfl (Or.inl rfl) (pe_and (pe_cmpR op_eq (pe_callB Gx.cr_lenS (by rfl) T.z_len bt_len (pa_cons (pv 8) pa_nil)) pe_int (nomark _)) (pe_one (pe_cmpR (op_eqD hr.units) (pe_lc (own := [("one", 10)]) (g := gName 10)  (by rfl) sc__law_renamings_told.nd (pi_str pe_str) (blkOk_by (N := ["to", "numbers", "at", "sign", "char", "drawn", "k", "strings", "word", "due", "one"]) (sc := defScope s__law_renamings_told) (by decide +kernel)) (fun _ _ _ _ _ => (pg_name (i := 10) sc__law_renamings_told.nd rfl (Or.inl rfl))) (fun _ _ _ _ _ => (pts_one (pt_cmpR Gx.op_notInSg (pv 10) (pv 8) rfl))) (fun _ _ _ _ _ => (pv 10))) (pe_lst pa_nil) (nomark _)))))
  (pss_one (ps_if (pt_not (pt_val (pe_call G__law_says (hr.mono (by first | decide | omega)) (by rfl) T.g__law_says T.F__law_says.kp T.b__law_says .nil pass0 (pa_cons (pe_call G_is_renaming (hr.mono (by first | decide | omega)) (by rfl) T.g_is_renaming T.F_is_renaming.kp T.b_is_renaming .nil pass0 (pa_cons (pv 8) pa_nil)) (pa_cons (pv 9) pa_nil)))))
  (pss_one (ps_ret pe_bl))
  pss_nil))))
  (pss_one (ps_ret pe_bl))))))))))), ?_⟩
    clear G__law_pick G__law_foreign G__law_char G__law_says G_is_renaming
    have h5 := ht.len
    have hfl : frn.length = 89 := rfl
    have hcp := ht.toSg.cp
    rw [st__law_renamings_told]
    try dsimp only [cxOf]
    walk_at "g"
    refine ⟨b, xs, _, _, rfl, hX, by omega, by omega, by omega, ?_⟩
    generalize hv0 : pk0 xs _ _ = v
    have hv : v < 5 := by rw [← hv0]; exact pk0_lt xs _ (by decide)
    clear hv0
    walk_at "g"
    refine ⟨b, xs, _, _, rfl, hX, by omega, by omega, by omega, ?_⟩
    generalize hv0 : pk0 xs _ _ = v1
    have hv1 : v1 < 5 := by rw [← hv0]; exact pk0_lt xs _ (by decide)
    clear hv0
    walk_at "g"
    rw [show ((v1 : Nat) : Int).toNat = v1 by omega]
    have hs1 : Gx.Cp [([58, 59, 97, 98, 99] : List Nat).getD v1 0] := cp_one (sgs_cp _ (sg_mem hv1))
    generalize ([58, 59, 97, 98, 99] : List Nat).getD v1 0 = sc at *
    refine ⟨rfl, ?_⟩
    refine ⟨b, xs, _, frn, rfl, hX, by omega, by omega, by omega, by omega, fun c hc => ?_⟩
    have hc1 := cp_one (frn_no c hc).2
    walk_at "g"
    refine ⟨5, rfl, by decide, by decide, fun D nD => lc_range (lo := 0) (n := 5) (fun j H' => Same H H' ∧ ∃ fr : List Nat, H' D = some (.lst (Gx.signV fr)) ∧ fr.length = j ∧ Gx.Cp fr) ⟨Gx.Same.put (Same.refl H) nD, [], upd_same, rfl, cp_nil⟩ ?_ ?_⟩
    · rintro j H1 hj ⟨s1, fr, e1, fl, fc⟩
      have hj' : j < 5 := hj
      walk_at "g"
      refine ⟨rfl, ?_⟩
      walk_at "g"
      refine ⟨b, xs, _, _, rfl, s1.seq hX, by omega, by omega, by omega, ?_⟩
      generalize hv0 : pk0 xs _ _ = v2
      have hv2 : v2 < 5 := by rw [← hv0]; exact pk0_lt xs _ (by decide)
      clear hv0
      walk_at "g"
      refine ⟨_, e1, Gx.lineL (by rw [signV_len]; show _ < 16777216; omega), Gx.Same.put s1 nD, fr ++ [_], by rw [upd_same, signV_snoc], by rw [List.length_append, fl]; rfl, Cp.snoc fc ?_⟩
      rw [show ((v2 : Nat) : Int).toNat = v2 by omega]
      exact sgs_cp _ (sg_mem hv2)
    · rintro H1 ⟨s1, fr, e1, fl, fc⟩
      replace fl : fr.length = 5 := fl
      walk_at "g"
      refine Gx.join0 (ls := fr.map fun c => [c]) (SqL.of (by rw [e1, signV_strs])) (by rw [flat_one, List.map_id']; omega) ?_
      rw [flat_one, List.map_id']
      walk_at "g"
      refine Gx.newL (by show 7 ≤ 16777216; decide) fun p2 H2 E2 => ?_
      have s2 := s1.trans E2.same
      obtain ⟨s7, e2⟩ : ∃ ss, StrL H2 p2 ss := by
        refine ⟨_, E2.at_, by show 7 ≤ 20; decide, ?_⟩
        intro x hx
        simp only [List.mem_cons, List.not_mem_nil, or_false] at hx
        rcases hx with rfl | rfl | rfl | rfl | rfl | rfl | rfl
        all_goals refine StrV.of ?_ (by (try simp only [List.length_append, List.length_take, List.length_drop, List.length_cons, List.length_nil]); omega)
        all_goals repeat' first | exact cp_nil | assumption | apply Gx.Cp.app | apply Gx.Cp.take | apply Gx.Cp.drop
      have l7 : s7.length = 7 := by
        have := e2.1.symm.trans E2.at_
        injection this with this
        injection this with this
        rw [this]
        rfl
      clear E2 s1 e1 nD
      walk_at "g"
      refine Gx.newL (by show 3 ≤ 16777216; decide) fun p3 H3 E3 => ?_
      walk_at "g"
      refine Gx.cat1 (E3.same _ _ e2.1) E3.at_ (by rw [l7]; show 10 ≤ 16777216; decide) fun p4 H4 E4 => ?_
      have s4 := s2.trans (E3.same.trans E4.same)
      obtain ⟨s10, e4, l10⟩ : ∃ ss, StrL H4 p4 ss ∧ ss.length = 10 := by
        refine ⟨_, ⟨E4.at_, ?_, ?_⟩, ?_⟩
        · rw [List.length_append, l7]; show 10 ≤ 20; decide
        · intro x hx
          rcases List.mem_append.mp hx with hx | hx
          · exact e2.2.2 x hx
          simp only [List.mem_cons, List.not_mem_nil, or_false] at hx
          rcases hx with rfl | rfl | rfl
          all_goals refine StrV.of ?_ (by (try simp only [List.length_append, List.length_take, List.length_drop, List.length_cons, List.length_nil]); omega)
          all_goals repeat' first | exact cp_nil | assumption | apply Gx.Cp.app | apply Gx.Cp.take | apply Gx.Cp.drop
        · rw [List.length_append, l7]; rfl
      clear E3 E4 s2 e2 l7
      walk_at "g"
      refine Gx.newL (by show 1 ≤ 16777216; decide) fun p5 H5 E5 => ?_
      refine Gx.cat1 (E5.same _ _ e4.1) E5.at_ (by rw [l10]; show 11 ≤ 16777216; decide) fun p6 H6 E6 => ?_
      have s6 := s4.trans (E5.same.trans E6.same)
      obtain ⟨ss, e6⟩ : ∃ ss, StrL H6 p6 ss := by
        refine ⟨_, E6.at_, ?_, ?_⟩
        · rw [List.length_append, l10]; show 11 ≤ 20; decide
        · intro x hx
          rcases List.mem_append.mp hx with hx | hx
          · exact e4.2.2 x hx
          simp only [List.mem_cons, List.not_mem_nil, or_false] at hx
          subst hx
          refine StrV.of ?_ (by (try simp only [List.length_append, List.length_take, List.length_drop, List.length_cons, List.length_nil]); omega)
          repeat' first | exact cp_nil | assumption | apply Gx.Cp.app | apply Gx.Cp.take | apply Gx.Cp.drop
      clear E5 E6 s4 e4 l10
      have hq : SqL K H6 p6 ss := SqL.of e6.1
      walk_at "g"
      refine ⟨⟨_, hq⟩, for_list (K := K) (a := p6) (xs := ss) (fun i σ H' => ∃ y1 y2 : Option V, Same H6 H' ∧ σ = [some (.str (Gx.mkS to)), some (.ref b), some (.int (v : Nat)), some (.str (Gx.mkS [sc])), some (.str (Gx.mkS [c])), some (.str (Gx.mkS fr)), none, some (.ref p6), y1, y2, none])
        ⟨_, _, Same.refl H6, rfl⟩ (fun i σ H' _ ⟨_, _, z, _⟩ => z.seq hq) ?_ ?_⟩
      · rintro i x σ H7 hi ⟨y1, y2, s7, rfl⟩
        obtain ⟨t, rfl, tc, tl⟩ := e6.2.2 x (List.mem_of_getElem? hi)
        walk_at "g"
        refine Gx.iteD (fun hl => ?_) (fun hl => ?_)
        · walk_at "g"
          refine fun D nD => Gx.lc_str (l := sgs) (fun i H' => Same H7 H' ∧ H' D = some (.lst (Gx.signV ((sgs.take i).filter fun c => !decide (c ∈ t))))) ⟨Gx.Same.put (Same.refl H7) nD, upd_same⟩ ?_ ?_
          · rintro i d H8 hd ⟨s8, e8⟩
            have hil : i < 5 := (List.getElem?_eq_some_iff.mp hd).1
            walk_at "g"
            refine ⟨rfl, ?_⟩
            walk_at "g"
            rw [filt_snoc _ hd]
            refine Gx.iteDn (fun hm => ?_) (fun hm => ?_)
            · rw [if_pos (by rw [Bool.not_eq_true', decide_eq_false_iff_not]; exact hm)]
              walk_at "g"
              refine ⟨_, e8, Gx.lineL ?_, Gx.Same.put s8 nD, by rw [upd_same, signV_snoc]⟩
              rw [signV_len]
              have := List.length_filter_le (fun c => !decide (c ∈ t)) (sgs.take i)
              rw [List.length_take] at this
              show _ < 16777216
              omega
            · rw [if_neg (by rw [Bool.not_eq_true', decide_eq_false_iff_not, Decidable.not_not]; exact hm), List.append_nil]
              exact ⟨s8, e8⟩
          · rintro H8 ⟨s8, e8⟩
            rw [List.take_length] at e8
            walk_at "g"
            refine Gx.newL (by show 0 ≤ 16777216; decide) fun p9 H9 E9 => ?_
            refine ⟨strsD _, strsD [], .lst (SqL.of (E9.same _ _ e8)) (dp_signs _), .lst (SqL.of E9.at_) .nil, shaped_signs (Cp.filt sgs_cp _), shaped_signs cp_nil, ?_⟩
            rw [eqv_signs]
            walk_at "g"
            refine ⟨t, rfl, tc, by omega, fun HA sA => ?_⟩
            walk_at "g"
            refine ⟨_, _, rfl, ?_⟩
            rw [show (decide (t.Perm sgs) == decide (sgs.filter (fun c => !decide (c ∈ t)) = [])) = true from by
              rw [beq_iff_eq]
              exact decide_eq_decide.mpr ((perm_iff t).trans ⟨fun h => h.2, fun h => ⟨by omega, h⟩⟩)]
            walk_at "g"
            exact ⟨_, _, ((s7.trans s8).trans E9.same).trans sA, rfl⟩
        · walk_at "g"
          refine ⟨t, rfl, tc, by omega, fun HA sA => ?_⟩
          walk_at "g"
          refine ⟨_, _, rfl, ?_⟩
          rw [show (decide (t.Perm sgs) == false) = true from by
            rw [beq_iff_eq]
            exact decide_eq_false fun h => hl (by rw [h.length_eq]; rfl)]
          walk_at "g"
          exact ⟨_, _, s7.trans sA, rfl⟩
      · rintro σ H7 ⟨y1, y2, s7, rfl⟩
        walk_at "g"
        exact q _ (s6.trans s7)
end
end K03
namespace K03
open PySem PySem.Spec PyProof.Rows L2
local macro_rules | `(tactic| walk_at "con") => `(tactic| first | with_reducible refine Gx.conE K03.ks0 ?_ | with_reducible refine Gx.conE K03.ks1 ?_ | with_reducible refine Gx.conE K03.ks2 ?_ | with_reducible refine Gx.conE K03.ks3 ?_ | with_reducible refine Gx.conE K03.ks4 ?_ | with_reducible refine Gx.conE K03.ks5 ?_ | with_reducible refine Gx.conE K03.ks6 ?_ | with_reducible refine Gx.conE K03.ks7 ?_ | with_reducible refine Gx.conE K03.ks8 ?_ | with_reducible refine Gx.conE K03.ks9 ?_ | with_reducible refine Gx.conE K03.ks10 ?_ | with_reducible refine Gx.conE K03.ks11 ?_ | with_reducible refine Gx.conE K03.ks12 ?_ | with_reducible refine Gx.conE K03.ks13 ?_ | with_reducible refine Gx.conE K03.ks14 ?_ | with_reducible refine Gx.conE K03.ks15 ?_)
section
variable {P : Program} {w : World} {K : PySem.W.Frag} {mg : Str → Option Value} {base : Heap}
theorem LeastOf.lt {rows : List (List Nat)} {fin : List Bool} {o : List Nat} {mk : Nat → Nat} {pk : List Nat} (L : LeastOf rows fin o mk pk) : ∀ s t, stands o mk pk s t → s < (lRows rows mk pk).length ∧ t < rows.length := by
  obtain ⟨cl, co, bf, sub, nd⟩ := L
  rintro s t ⟨h1, h2, h3⟩
  refine ⟨?_, cl.2.1 _ h2⟩
  unfold lRows
  rw [List.length_map]
  exact h1
theorem lang_due {rows : List (List Nat)} {fin : List Bool} {to : List Nat} {o1 o2 pk1 pk2 : List Nat} {mk1 mk2 : Nat → Nat} {Rd : List (List Nat)} {Fd : List Bool} {l : List Nat} {s : Nat} (ht : Ren to) (five : Five rows) (L1 : LeastOf rows fin o1 mk1 pk1)
    (L2 : LeastOf (turnR to (lRows rows mk1 pk1)) (lFins fin pk1) o2 mk2 pk2) (LL : LawLeast (turnR to rows) fin Rd Fd) (hl : Sg l) (hs : runM rows 0 l = some s) :
    (lRows (turnR to (lRows rows mk1 pk1)) mk2 pk2 = Rd ∧ lFins (lFins fin pk1) pk2 = Fd) ∧ Five Rd ∧ Fd.length = Rd.length ∧ ∃ s', runM Rd 0 (ren to l) = some s' ∧ Fd.getD s' false = fin.getD s false := by
  have f1 := (L1.five five).1
  have fT := turnR_five ht five
  have g1 := L1.sim.turn ht f1 L1.lt
  obtain ⟨e1, e2⟩ := LL.same fT g1 L1.stands0 L2
  obtain ⟨fd, fl, _⟩ := LL.five fT
  refine ⟨⟨e1, e2⟩, fd, fl, ?_⟩
  obtain ⟨s', h'⟩ := runM_some fd (ren to l) 0 fd.1 (Sg.isP (ht.sgOf l))
  have g2 := L2.sim.comp g1
  rw [e1, e2] at g2
  have lt2 := L2.lt
  rw [e1] at lt2
  obtain ⟨t', h1, h2⟩ := Sim.run g2 fd (fun a c ⟨b, x, _⟩ => (lt2 a b x).1) (ren to l) 0 0 s' ⟨0, L2.stands0, L1.stands0⟩ h'
  rw [turnR_run ht five l 0 five.1 hl, hs] at h1
  cases h1
  exact ⟨s', h', (g2 _ _ h2).1⟩
def sp_ltold (K : PySem.W.Frag) : Sp := fun vs H Q _ => ∃ (b : Addr) (xs : List Int) (l to : List Nat) (first : Int), vs = [.str (Gx.mkS l), .str (Gx.mkS to), .ref b, .int first] ∧ SqL K H b (xs.map V.int) ∧ Sg l ∧ l.length ≤ 60 ∧ Ren to ∧ 0 ≤ first ∧ first + 25 ≤ xs.length ∧ ∀ H', Same H H' → Q (.bl true) H'
set_option maxHeartbeats 4000000 in
theorem G__law_language_told (T : Txt K mg w) : FnOk P w K mg base CX0 7 T.f__law_language_told T.fd__law_language_told ["text", "to", "numbers", "first"] (sp_ltold K) := by
  have G__law_pick := G__law_pick (P := P) (w := w) (base := base) T
  have G_Machine_init := G_Machine_init (P := P) (w := w) (base := base) T
  have G_Machine_contains := G_Machine_contains (P := P) (w := w) (base := base) T
  have G_renamed_language := G_renamed_language (P := P) (w := w) (base := base) T
  have G__law_least := G__law_least (P := P) (w := w) (base := base) T
  have G__law_is_machine := G__law_is_machine (P := P) (w := w) (base := base) T
  have G__law_turned := G__law_turned (P := P) (w := w) (base := base) T
  have G__law_says := G__law_says (P := P) (w := w) (base := base) T
  refine T.F__law_language_told.ok sc__law_language_told (fun vs H Q E h => ?_) (fun cdv A outer s H vs Q E hr h => ?_)
  · obtain ⟨b, xs, l, to, first, rfl, _⟩ := h
    rfl
  · obtain ⟨b, xs, l, to, first, rfl, hX, hsg, hll, ht, h0, hxl, q⟩ := h
    have h5 := ht.len
    refine ⟨_, ((pss_cons (ps_set (i := 4) sc__law_language_told.nd rfl (Or.inr rfl) (pe_op op_add pe_int (pe_call G__law_pick (hr.mono (by first | decide | omega)) (by rfl) T.g__law_pick T.F__law_pick.kp T.b__law_pick .nil pass0 (pa_cons (pv 2) (pa_cons (pv 3) (pa_cons pe_int pa_nil))))))
  (pss_cons (ps_setLc (i := 5) (own := [("state", 7)]) (g := gName 7) (tt := tYes) rfl sc__law_language_told.nd rfl rfl (sw_true rfl rfl rfl (by decide +kernel)) (pi_range1 rfl T.z_range (pa_cons (pv 4) pa_nil)) (blkOk_by (N := ["text", "to", "numbers", "first", "base", "rows", "k", "state", "finals", "machine", "row", "answer", "due", "sign"]) (sc := defScope s__law_language_told) (by decide +kernel)) (fun _ _ _ _ _ => (pg_name (i := 7) sc__law_language_told.nd rfl (Or.inr rfl))) (fun _ _ _ _ _ => pts_nil) (fun _ _ _ _ _ => (pe_lc (own := [("k", 6)]) (g := gName 6) (tt := tYes) (by rfl) sc__law_language_told.nd (pi_range1 rfl T.z_range (pa_cons pe_int pa_nil)) (blkOk_by (N := ["text", "to", "numbers", "first", "base", "rows", "k", "state", "finals", "machine", "row", "answer", "due", "sign"]) (by kernel_rfl)) (fun _ _ _ _ _ => (pg_name (i := 6) sc__law_language_told.nd rfl (Or.inl rfl))) (fun _ _ _ _ _ => pts_nil) (fun _ _ _ _ _ => (pe_call G__law_pick (hr.mono (by first | decide | omega)) (by rfl) T.g__law_pick T.F__law_pick.kp T.b__law_pick .nil pass0 (pa_cons (pv 2) (pa_cons (pe_op op_add (pe_op op_add (pe_op op_add (pv 3) pe_int) (pe_op op_mul pe_int (pv 7))) (pv 6)) (pa_cons (pv 4) pa_nil))))))))
  (pss_cons (ps_setLc (i := 8) (own := [("state", 7)]) (g := gName 7) (tt := tYes) rfl sc__law_language_told.nd rfl rfl (sw_true rfl rfl rfl (by decide +kernel)) (pi_range1 rfl T.z_range (pa_cons (pv 4) pa_nil)) (blkOk_by (N := ["text", "to", "numbers", "first", "base", "rows", "k", "state", "finals", "machine", "row", "answer", "due", "sign"]) (sc := defScope s__law_language_told) (by decide +kernel)) (fun _ _ _ _ _ => (pg_name (i := 7) sc__law_language_told.nd rfl (Or.inl rfl))) (fun _ _ _ _ _ => pts_nil) (fun _ _ _ _ _ => (pe_cmpR op_eq (pe_call G__law_pick (hr.mono (by first | decide | omega)) (by rfl) T.g__law_pick T.F__law_pick.kp T.b__law_pick .nil pass0 (pa_cons (pv 2) (pa_cons (pe_op op_add (pe_op op_add (pv 3) pe_int) (pv 7)) (pa_cons pe_int pa_nil)))) pe_int (nomark _))))
  (pss_cons (ps_set (i := 9) sc__law_language_told.nd rfl (Or.inl rfl) (pe_make T.M_Machine G_Machine_init (hr.mono (by first | decide | omega)) (by rfl) T.g_Machine T.b_Machine_init .nil pass0 (pa_cons (pe_lc (own := [("row", 10)]) (g := gName 10) (tt := tYes) (by rfl) sc__law_language_told.nd (pi_list (pv 5)) (blkOk_by (N := ["text", "to", "numbers", "first", "base", "rows", "k", "state", "finals", "machine", "row", "answer", "due", "sign"]) (sc := defScope s__law_language_told) (by decide +kernel)) (fun _ _ _ _ _ => (pg_name (i := 10) sc__law_language_told.nd rfl (Or.inl rfl))) (fun _ _ _ _ _ => pts_nil) (fun _ _ _ _ _ => (pe_callTy (r := Gx.rListQ K) Gx.cr_listQ (by rfl) T.z_list bt_list (pa_cons (pv 10) pa_nil)))) (pa_cons (pe_callTy call_list_of (by rfl) T.z_list bt_list (pa_cons (pv 8) pa_nil)) pa_nil))))
  (pss_cons (ps_set (i := 11) sc__law_language_told.nd rfl (Or.inl rfl) (pe_call G_renamed_language (hr.mono (by first | decide | omega)) (by rfl) T.g_renamed_language T.F_renamed_language.kp T.b_renamed_language .nil pass0 (pa_cons (pv 9) (pa_cons (pv 1) pa_nil))))
  (pss_cons (ps_set (i := 12) sc__law_language_told.nd rfl (Or.inl rfl) (pe_call G__law_least (hr.mono (by first | decide | omega)) (by rfl) T.g__law_least T.F__law_least.kp T.b__law_least .nil pass0 (pa_cons (pe_lc (own := [("row", 10)]) (g := gName 10) (tt := tYes) (by rfl) sc__law_language_told.nd (pi_list (pv 5)) (blkOk_by (N := ["text", "to", "numbers", "first", "base", "rows", "k", "state", "finals", "machine", "row", "answer", "due", "sign"]) (sc := defScope s__law_language_told) (by decide +kernel)) (fun _ _ _ _ _ => (pg_name (i := 10) sc__law_language_told.nd rfl (Or.inr rfl))) (fun _ _ _ _ _ => pts_nil) (fun _ _ _ _ _ => (pe_lc (own := [("sign", 13)]) (g := gName 13) (tt := tYes) (by rfl) sc__law_language_told.nd (pi_str pe_str) (blkOk_by (N := ["text", "to", "numbers", "first", "base", "rows", "k", "state", "finals", "machine", "row", "answer", "due", "sign"]) (by kernel_rfl)) (fun _ _ _ _ _ => (pg_name (i := 13) sc__law_language_told.nd rfl (Or.inl rfl))) (fun _ _ _ _ _ => pts_nil) (fun _ _ _ _ _ => (pe_ix (r := rIxL K) ix_list (pv 10) (pe_bm PySem.F.plainAttrs_str PySem.F.slot_str_index PySem.F.type_str_index mt_sindex (pv 1) (pa_cons (pv 13) pa_nil) : PE _ _ (tBM K _ _ _ _)) (fun _ _ => rfl)))))) (pa_cons (pv 8) pa_nil))))
  (pss_cons (ps_set (i := 7) sc__law_language_told.nd rfl (Or.inl rfl) pe_int)
  (pss_cons (ps_for PassesOwn.never rfl (pi_str (pv 0)) (pg_name (i := 13) sc__law_language_told.nd rfl (Or.inl rfl))
  (pss_one (ps_set (i := 7) sc__law_language_told.nd rfl (Or.inl rfl) (pe_ix ix_list (pe_ix ix_list (pv 5) (pv 7) (fun _ _ => rfl)) (pe_bm PySem.F.plainAttrs_str PySem.F.slot_str_index PySem.F.type_str_index mt_sindex pe_str (pa_cons (pv 13) pa_nil)) (fun _ _ => rfl)))))
  (pss_cons (ps_if (PW.pt (pw_or (pt_not (pt_val (pe_call G__law_is_machine (hr.mono (by first | decide | omega)) (by rfl) T.g__law_is_machine T.F__law_is_machine.kp T.b__law_is_machine .nil pass0 (pa_cons (pv 11) (pa_cons (pv 12) pa_nil))))) (pw_or1 (pt_not (pt_val (pe_call G__law_says (hr.mono (by first | decide | omega)) (by rfl) T.g__law_says T.F__law_says.kp T.b__law_says .nil pass0 (pa_cons (pe_cmpR (Gx.op_inO T.m_Machine_contains.at_ T.m_Machine_contains.fn G_Machine_contains (hr.mono (by first | decide | omega)) T.b_Machine_contains) (pe_call G__law_turned (hr.mono (by first | decide | omega)) (by rfl) T.g__law_turned T.F__law_turned.kp T.b__law_turned .nil pass0 (pa_cons (pv 0) (pa_cons (pv 1) pa_nil))) (pv 11) rfl) (pa_cons (pe_ix ix_list (pv 8) (pv 7) (fun _ _ => rfl)) pa_nil))))))))
  (pss_one (ps_ret pe_bl))
  pss_nil)
  (pss_one (ps_ret (pe_call G__law_is_machine (hr.mono (by first | decide | omega)) (by rfl) T.g__law_is_machine T.F__law_is_machine.kp T.b__law_is_machine .nil pass0 (pa_cons (pv 9) (pa_cons (pe_call G__law_least (hr.mono (by first | decide | omega)) (by rfl) T.g__law_least T.F__law_least.kp T.b__law_least .nil pass0 (pa_cons (pv 5) (pa_cons (pv 8) pa_nil))) pa_nil))))))))))))))), ?_⟩
    clear G__law_pick G_Machine_init G_Machine_contains G_renamed_language G__law_least G__law_is_machine G__law_turned G__law_says
    rw [st__law_language_told]
    try dsimp only [cxOf]
    walk_at "g"
    refine ⟨b, xs, _, _, rfl, hX, by omega, by omega, by omega, ?_⟩
    generalize hb0 : pk0 xs _ _ = b0
    have hb : b0 < 4 := by rw [← hb0]; exact pk0_lt xs _ (by decide)
    clear hb0
    walk_at "g"
    have hn : (1 + (b0 : Int)).toNat = b0 + 1 := by omega
    refine ⟨_, rfl, by omega, by omega, fun D nD => lc_range (lo := 0) (n := (1 + (b0 : Int)).toNat) (fun i H' => Same H H' ∧ ∃ rs : List (List Nat), LsP H' D (rs.map fun row => row.map fun n => V.int (n : Nat)) ∧ rs.length = i ∧ ∀ row ∈ rs, row.length = 5 ∧ ∀ t ∈ row, t < b0 + 1) ⟨Gx.Same.put (Same.refl H) nD, [], .nil upd_same, rfl, fun row h => by cases h⟩ ?_ ?_⟩
    · rintro i H2 hi ⟨s2, rs, m2, rl, rok⟩
      walk_at "g"
      refine ⟨rfl, ?_⟩
      walk_at "g"
      refine ⟨_, rfl, by omega, by omega, fun E nE => lc_range (lo := 0) (n := (5 : Int).toNat) (fun j H' => Same H2 H' ∧ ∃ r : List Nat, H' E = some (.lst (r.map fun n => V.int (n : Nat))) ∧ r.length = j ∧ ∀ t ∈ r, t < b0 + 1) ⟨Gx.Same.put (Same.refl H2) nE, [], upd_same, rfl, fun t h => by cases h⟩ ?_ ?_⟩
      · rintro j H3 hj ⟨s3, r, e3, rl3, rok3⟩
        have hj' : j < 5 := hj
        walk_at "g"
        refine ⟨rfl, ?_⟩
        walk_at "g"
        refine ⟨b, xs, _, _, rfl, (s2.trans s3).seq hX, by omega, by omega, by omega, ?_⟩
        generalize hv : pk0 xs _ _ = v
        have hv' : v < b0 + 1 := by rw [← hv, ← hn]; exact pk0_lt xs _ (by omega)
        refine ⟨_, e3, Gx.lineL (by rw [List.length_map]; omega), Gx.Same.put s3 nE, r ++ [v], by rw [upd_same, List.map_append]; rfl, by rw [List.length_append, rl3]; rfl, fun t ht => ?_⟩
        rcases List.mem_append.mp ht with h | h
        · exact rok3 t h
        · cases List.mem_singleton.mp h
          exact hv'
      · rintro H3 ⟨s3, r, e3, rl3, rok3⟩
        obtain ⟨acc, h1, h2, h3⟩ := m2.snoc s3 nE e3
        rw [List.length_map] at h2
        refine ⟨acc, h1, Gx.lineL (by omega), Gx.Same.put (s2.trans s3) nD, rs ++ [r], by rw [List.map_append]; exact h3, by rw [List.length_append, rl]; rfl, fun row hr => ?_⟩
        rcases List.mem_append.mp hr with h | h
        · exact rok row h
        · cases List.mem_singleton.mp h
          exact ⟨rl3, rok3⟩
    · rintro H2 ⟨s2, rows, m2, rl, rok⟩
      replace rl : rows.length = b0 + 1 := by rw [rl, hn]
      have five : Five rows := ⟨by omega, fun s hs => by
        have := rok _ (List.mem_of_getElem? (row_get hs))
        rw [rl]
        exact this⟩
      have hR := m2.lsAt (K := K)
      replace hX := s2.seq hX
      clear rok m2
      walk_at "g"
      refine ⟨_, rfl, by omega, by omega, fun D2 nD2 => lc_range (lo := 0) (n := (1 + (b0 : Int)).toNat) (fun j H' => Same H2 H' ∧ ∃ bs : List Bool, H' D2 = some (.lst (bs.map V.bl)) ∧ bs.length = j) ⟨Gx.Same.put (Same.refl H2) nD2, [], upd_same, rfl⟩ ?_ ?_⟩
      · rintro j H3 hj ⟨s3, bs, e3, bl⟩
        walk_at "g"
        refine ⟨rfl, ?_⟩
        walk_at "g"
        refine ⟨b, xs, _, _, rfl, s3.seq hX, by omega, by omega, by omega, ?_⟩
        generalize pk0 xs _ _ = v
        walk_at "g"
        refine ⟨_, e3, Gx.lineL (by rw [List.length_map]; omega), Gx.Same.put s3 nD2, bs ++ [_], by rw [upd_same, List.map_append]; rfl, by rw [List.length_append, bl]; rfl⟩
      · rintro H3 ⟨s3, fin, e3, fl⟩
        replace fl : fin.length = rows.length := by rw [fl, hn, rl]
        have s03 := s2.trans s3
        replace hR := hR.same s3
        have hF : SqL K H3 D2 (fin.map V.bl) := SqL.of e3
        clear e3 hX nD nD2 s2 s3 hn
        have rl4 : rows.length ≤ 4 := by omega
        obtain ⟨sR, hrun⟩ := runM_some five l 0 five.1 hsg.isP
        clear rl hb
        obtain ⟨vs, hvs, hvl, hrow⟩ := id hR
        walk_at "g"
        refine ⟨⟨_, hvs⟩, fun D3 nD3 => lc_list (K := K) (a := D) (xs := vs) (fun i H' => Same H3 H' ∧ LsP H' D3 ((rows.take i).map fun row => row.map fun n => V.int (n : Nat))) ⟨Gx.Same.put (Same.refl H3) nD3, .nil upd_same⟩ (fun i H' _ z => z.1.seq hvs) ?_ ?_⟩
        · rintro i x H4 hi ⟨s4, m4⟩
          have hi' : i < rows.length := by have := (List.getElem?_eq_some_iff.mp hi).1; omega
          obtain ⟨r, v1, q1⟩ := hrow i _ (row_get hi')
          rw [hi] at v1
          cases v1
          walk_at "g"
          refine ⟨rfl, ?_⟩
          walk_at "g"
          refine ⟨r, _, rfl, .inl (s4.seq q1), fun E nE => ?_⟩
          obtain ⟨acc, h1, h2, h3⟩ := m4.snoc (Gx.Same.put (Same.refl H4) nE) nE upd_same
          rw [List.length_map, List.length_take] at h2
          refine ⟨acc, h1, Gx.lineL (by omega), Gx.Same.put (s4.trans (Gx.Same.put (Same.refl H4) nE)) nD3, ?_⟩
          rw [List.take_add_one, row_get hi', Option.toList_some, List.map_append]
          exact h3
        · rintro H4 ⟨s4, m4⟩
          rw [hvl, List.take_length] at m4
          have hR2 : LsAt K H4 D3 rows := m4.lsAt
          replace hR := hR.same s4
          replace hF := s4.seq hF
          replace s03 := s03.trans s4
          clear m4 nD3 hvs hrow hvl s4
          walk_at "g"
          refine ⟨D2, _, rfl, .inl hF, fun pf npf => ?_⟩
          obtain ⟨H5, hH5, E5⟩ : ∃ H5, H5 = upd H4 pf (.lst (fin.map V.bl)) ∧ Gx.Ext1 H4 H5 pf (.lst (fin.map V.bl)) := ⟨_, rfl, Gx.ext1 npf⟩
          rw [← hH5]
          clear hH5
          have hF2 : SqL K H5 pf (fin.map V.bl) := SqL.of E5.at_
          replace hR := hR.same E5.same
          replace hR2 := hR2.same E5.same
          replace hF := E5.same.seq hF
          replace s03 := s03.trans E5.same
          clear E5
          walk_at "g"
          refine mk_mach hR2.rows (five.ok (by omega)) (.inl hF2) fl (fun o mk pk L => by have := least_le L; omega) fun H6 pm o1 mk1 pk1 s6 L1 hm => ?_
          obtain ⟨fR1, fl1⟩ := L1.five five
          have m1 : (lRows rows mk1 pk1).length ≤ 4 := by unfold lRows; rw [List.length_map]; have := least_le L1; omega
          replace hR := hR.same s6
          replace hF := s6.seq hF
          replace s03 := s03.trans s6
          clear hR2 hF2 s6
          walk_at "g"
          refine ⟨pm, _, _, to, rfl, hm, fR1, fl1, by omega, ht, fun H7 pa o2 mk2 pk2 s7 L2 ha => ?_⟩
          replace hR := hR.same s7
          replace hF := s7.seq hF
          replace hm := hm.same s7
          replace s03 := s03.trans s7
          clear s7
          obtain ⟨vs, hvs, hvl, hrow⟩ := id hR
          walk_at "g"
          refine ⟨⟨_, hvs⟩, fun D4 nD4 => lc_list (K := K) (a := D) (xs := vs) (fun i H' => Same H7 H' ∧ LsP H' D4 ((turnR to (rows.take i)).map fun row => row.map fun n => V.int (n : Nat))) ⟨Gx.Same.put (Same.refl H7) nD4, .nil upd_same⟩ (fun i H' _ z => z.1.seq hvs) ?_ ?_⟩
          · rintro i x H8 hi ⟨s8, m8⟩
            have hi' : i < rows.length := by have := (List.getElem?_eq_some_iff.mp hi).1; omega
            obtain ⟨r, v1, q1⟩ := hrow i _ (row_get hi')
            rw [hi] at v1
            cases v1
            have f1 := (five.2 i hi').1
            generalize hrw : rows.getD i [] = row at *
            walk_at "g"
            refine ⟨rfl, ?_⟩
            walk_at "g"
            refine fun D5 nD5 => Gx.lc_str (l := sgs) (fun j H' => Same H8 H' ∧ H' D5 = some (.lst (((sgs.take j).map fun c => row.getD (to.idxOf c) 0).map fun n => V.int (n : Nat)))) ⟨Gx.Same.put (Same.refl H8) nD5, upd_same⟩ ?_ ?_
            · rintro j c H9 hc ⟨s9, e9⟩
              have hil : j < 5 := (List.getElem?_eq_some_iff.mp hc).1
              have hm' : c ∈ sgs := List.mem_of_getElem? hc
              have hx := ht.idx hm'
              have q9 := (s8.trans s9).seq q1
              walk_at "g"
              refine ⟨rfl, ?_⟩
              walk_at "g"
              refine ⟨rfl, ?_⟩
              walk_at "g"
              refine ⟨_, _, to.idxOf c, [], rfl, rfl, occ_to ht hm', ?_⟩
              refine Gx.ixL q9 (Gx.atI_of (k := to.idxOf c) rfl (int_get (by omega))) ?_
              refine ⟨_, e9, Gx.lineL (by rw [List.length_map, List.length_map, List.length_take]; omega), Gx.Same.put s9 nD5, ?_⟩
              rw [upd_same, List.take_add_one, hc, Option.toList_some, List.map_append, List.map_append]
              rfl
            · rintro H9 ⟨s9, e9⟩
              obtain ⟨acc, h1, h2, h3⟩ := m8.snoc s9 nD5 e9
              rw [List.length_map, turnR_len, List.length_take] at h2
              refine ⟨acc, h1, Gx.lineL (by omega), Gx.Same.put (s8.trans s9) nD4, ?_⟩
              rw [List.take_add_one, row_get hi', Option.toList_some, hrw]
              unfold turnR at h3 ⊢
              rw [List.map_append, List.map_append]
              exact h3
          · rintro H8 ⟨s8, m8⟩
            rw [hvl, List.take_length] at m8
            have hT : LsAt K H8 D4 (turnR to rows) := m8.lsAt
            replace hR := hR.same s8
            replace hF := s8.seq hF
            replace hm := hm.same s8
            replace ha := ha.same s8
            replace s03 := s03.trans s8
            clear m8 nD4 hvs hrow hvl s8
            walk_at "g"
            refine ⟨D4, D2, turnR to rows, fin, rfl, hT, turnR_five ht five, by rw [turnR_len]; omega, hF, by rw [turnR_len]; exact fl, fun H9 u x y Rd Fd s9 eu dR dF LL => ?_⟩
            replace hR := hR.same s9
            replace hF := s9.seq hF
            replace hm := hm.same s9
            replace ha := ha.same s9
            replace s03 := s03.trans s9
            have eu' : SqT K H9 u [x, y] := SqT.of eu
            obtain ⟨⟨e1, e2⟩, fd, fld, s', k1, k2⟩ := lang_due ht five L1 L2 LL hsg hrun
            rw [e1, e2] at ha
            clear hT s9 eu L2 LL e1 e2
            obtain ⟨vs, hvs, hvl, hrow⟩ := id hR
            walk_at "g"
            refine Gx.for_str (fun i σ H' => H' = H9 ∧ ∃ (s : Nat) (y : Option V), runM rows 0 (l.take i) = some s ∧ σ = [some (.str (Gx.mkS l)), some (.str (Gx.mkS to)), some (.ref b), some (.int first), some (.int (1 + (b0 : Int))), some (.ref D), none, some (.int (s : Nat)), some (.ref D2), some (.ref pm), none, some (.ref pa), some (.ref u), y]) ⟨rfl, 0, _, rfl, rfl⟩ ?_ ?_
            · rintro i c σ H' hc ⟨rfl, s1, y, hs1, rfl⟩
              have hsl := runM_lt five _ _ _ five.1 hs1
              have hstep : runM rows 0 (l.take (i + 1)) = (plc c).map fun k => mv rows s1 k := by
                rw [List.take_add_one, hc, Option.toList_some, runM_app, hs1, Option.bind_some, runM]
                cases plc c <;> rfl
              have hcs := hsg.isP c (List.mem_of_getElem? hc)
              cases hp : plc c with
              | none => rw [hp] at hcs; cases hcs
              | some k =>
                rw [hp] at hstep
                have hk := plc_lt hp
                obtain ⟨r2, e2, h2⟩ := hrow s1 _ (row_get hsl)
                walk_at "g"
                refine Gx.ixL hvs (Gx.atI_of (k := s1) rfl e2) ?_
                walk_at "g"
                refine ⟨rfl, ?_⟩
                walk_at "g"
                refine ⟨_, _, k, [], rfl, rfl, occ_sg hp, ?_⟩
                have hrl := (five.2 s1 hsl).1
                refine Gx.ixL h2 (Gx.atI_of (k := k) rfl (int_get (by omega))) ?_
                walk_at "g"
                exact ⟨rfl, mv rows s1 k, _, hstep, rfl⟩
            · rintro σ H' ⟨rfl, s1, y, hs1, rfl⟩
              rw [List.take_length, hrun] at hs1
              cases hs1
              have hsl := runM_lt five _ _ _ five.1 hrun
              walk_at "g"
              refine ⟨pa, u, _, _, Rd, Rd, Fd, Fd, rfl, ha, fd, eu', dR, dF, ?_⟩
              rw [decide_eq_true (And.intro rfl rfl)]
              walk_at "g"
              refine ⟨l, to, rfl, ht, hsg, by omega, fun HA sA => ?_⟩
              replace hR := hR.same sA
              replace hF := sA.seq hF
              replace hm := hm.same sA
              replace ha := ha.same sA
              replace s03 := s03.trans sA
              obtain ⟨dxk, vxk, vyk, hpk, _⟩ := id ha
              clear sA dR dF eu' hvs hrow hvl
              walk_at "g"
              refine ⟨pa, dxk, _, rfl, hpk, pa, Rd, Fd, ren to l, rfl, ha, fd, fld, ⟨_, rfl⟩, ?_⟩
              rw [k1]
              dsimp only
              walk_at "g"
              refine Gx.ixL hF (Gx.atI_of (k := sR) rfl (bl_get (by omega))) ?_
              walk_at "g"
              refine ⟨_, _, rfl, ?_⟩
              rw [k2, beq_self_eq_true]
              walk_at "g"
              refine ⟨D, D2, rows, fin, rfl, hR, five, by omega, hF, fl, fun HB u x y R F sB eu dR dF LL => ?_⟩
              obtain ⟨e1, e2⟩ := LL.same five (Sim.refl rows fin) rfl L1
              rw [e1, e2] at hm
              replace hm := hm.same sB
              walk_at "g"
              refine ⟨pm, u, x, y, R, R, F, F, rfl, hm, (LL.five five).1, SqT.of eu, dR, dF, ?_⟩
              rw [decide_eq_true (And.intro rfl rfl)]
              exact q _ (s03.trans sB)
end
end K03
namespace K03
open PySem PySem.Spec PyProof.Rows L2
local macro_rules | `(tactic| walk_at "con") => `(tactic| first | with_reducible refine Gx.conE K03.ks0 ?_ | with_reducible refine Gx.conE K03.ks1 ?_ | with_reducible refine Gx.conE K03.ks2 ?_ | with_reducible refine Gx.conE K03.ks3 ?_ | with_reducible refine Gx.conE K03.ks4 ?_ | with_reducible refine Gx.conE K03.ks5 ?_ | with_reducible refine Gx.conE K03.ks6 ?_ | with_reducible refine Gx.conE K03.ks7 ?_ | with_reducible refine Gx.conE K03.ks8 ?_ | with_reducible refine Gx.conE K03.ks9 ?_ | with_reducible refine Gx.conE K03.ks10 ?_ | with_reducible refine Gx.conE K03.ks11 ?_ | with_reducible refine Gx.conE K03.ks12 ?_ | with_reducible refine Gx.conE K03.ks13 ?_ | with_reducible refine Gx.conE K03.ks14 ?_ | with_reducible refine Gx.conE K03.ks15 ?_)
section
variable {P : Program} {w : World} {K : PySem.W.Frag} {mg : Str → Option Value} {base : Heap}
theorem Pat.ok_mono {m n : Nat} (h : m ≤ n) : ∀ p : Pat, p.ok m → p.ok n
  | .word l, k => ⟨k.1, Nat.le_trans k.2 h⟩
  | .one l, k => k
  | .star p, k => Pat.ok_mono h p k
  | .two b p q, k => ⟨Pat.ok_mono h p k.1, Pat.ok_mono h q k.2⟩
def spLaw (K : PySem.W.Frag) : Sp := fun vs H Q _ => ∃ (a : Addr) (ns : List Int), vs = [.ref a] ∧ SqL K H a (ns.map V.int) ∧ ns.length ≤ 63 ∧ ∀ H', Q (.bl true) H'
set_option maxHeartbeats 4000000 in
theorem ok_law (T : Txt K mg w) : FnOk P w K mg base CX0 24 T.f_law T.fd_law ["script"] (spLaw K) := by
  have G__law_stream := G__law_stream (P := P) (w := w) (base := base) T
  have G__law_pick := G__law_pick (P := P) (w := w) (base := base) T
  have G__law_renaming := G__law_renaming (P := P) (w := w) (base := base) T
  have G__law_same := G__law_same (P := P) (w := w) (base := base) T
  have G__law_texts_told := G__law_texts_told (P := P) (w := w) (base := base) T
  have G__law_renamings_told := G__law_renamings_told (P := P) (w := w) (base := base) T
  have G__law_language_told := G__law_language_told (P := P) (w := w) (base := base) T
  have G__law_turned := G__law_turned (P := P) (w := w) (base := base) T
  have G__law_turned_pattern := G__law_turned_pattern (P := P) (w := w) (base := base) T 21
  have G__law_pattern := G__law_pattern (P := P) (w := w) (base := base) T
  have G_renamed := G_renamed (P := P) (w := w) (base := base) T
  have G_renaming_back := G_renaming_back (P := P) (w := w) (base := base) T
  have G_renamed_pattern := G_renamed_pattern (P := P) (w := w) (base := base) T 21
  refine T.F_law.ok sc_law (fun vs H Q E h => ?_) (fun cdv A outer s H vs Q E hr h => ?_)
  · obtain ⟨a, ns, rfl, _⟩ := h
    rfl
  · obtain ⟨a, ns, rfl, hS, hlen, q⟩ := h
    refine ⟨_, ((pss_cons (ps_set (i := 1) sc_law.nd rfl (Or.inr rfl) (pe_call G__law_stream (hr.mono (by first | decide | omega)) (by rfl) T.g__law_stream T.F__law_stream.kp T.b__law_stream .nil pass0 (pa_cons (pv 0) (pa_cons pe_int pa_nil))))
  (pss_cons (ps_set (i := 2) sc_law.nd rfl (Or.inr rfl) (pe_call G__law_renaming (hr.mono (by first | decide | omega)) (by rfl) T.g__law_renaming T.F__law_renaming.kp T.b__law_renaming .nil pass0 (pa_cons (pv 1) (pa_cons pe_int pa_nil))))
  (pss_cons (ps_set (i := 3) sc_law.nd rfl (Or.inl rfl) (pe_call G__law_pick (hr.mono (by first | decide | omega)) (by rfl) T.g__law_pick T.F__law_pick.kp T.b__law_pick .nil pass0 (pa_cons (pv 1) (pa_cons pe_int (pa_cons pe_int pa_nil)))))
  (C8.pss_cut (ps_if (pt_cmpR op_eq (pe_call G__law_pick (hr.mono (by first | decide | omega)) (by rfl) T.g__law_pick T.F__law_pick.kp T.b__law_pick .nil pass0 (pa_cons (pv 1) (pa_cons pe_int (pa_cons pe_int pa_nil)))) pe_int (nomark _))
  (pss_one (ps_set (i := 3) sc_law.nd rfl (Or.inl rfl) (pe_op op_sub pe_int (pe_call G__law_pick (hr.mono (by first | decide | omega)) (by rfl) T.g__law_pick T.F__law_pick.kp T.b__law_pick .nil pass0 (pa_cons (pv 1) (pa_cons pe_int (pa_cons pe_int pa_nil)))))))
  pss_nil)
  (pss_cons (ps_set (i := 4) sc_law.nd rfl (Or.inl rfl) (Gx.pe_joinG pe_str (pe_lc (own := [("k", 5)]) (g := gName 5) (tt := tYes) (by rfl) sc_law.nd (pi_range1 rfl T.z_range (pa_cons (pv 3) pa_nil)) (blkOk_by (N := ["script", "numbers", "to", "size", "text", "k", "due", "back", "sign", "pattern"]) (sc := defScope s_law) (by decide +kernel)) (fun _ _ _ _ _ => (pg_name (i := 5) sc_law.nd rfl (Or.inl rfl))) (fun _ _ _ _ _ => pts_nil) (fun _ _ _ _ _ => (pe_ix ix_str pe_str (pe_call G__law_pick (hr.mono (by first | decide | omega)) (by rfl) T.g__law_pick T.F__law_pick.kp T.b__law_pick .nil pass0 (pa_cons (pv 1) (pa_cons (pe_op op_add pe_int (pv 5)) (pa_cons pe_int pa_nil)))) (fun _ _ => rfl))))))
  (pss_cons (ps_if (PW.pt (pw_or (pt_not (pt_val (pe_call G__law_same (hr.mono (by first | decide | omega)) (by rfl) T.g__law_same T.F__law_same.kp T.b__law_same .nil pass0 (pa_cons (pe_glob (v := .str (Str.ofString ":;abc")) rfl T.g_SIGNS ⟨_, rfl⟩) (pa_cons pe_str pa_nil))))) (pw_or (pt_not (pt_val (pe_call G__law_texts_told (hr.mono (by first | decide | omega)) (by rfl) T.g__law_texts_told T.F__law_texts_told.kp T.b__law_texts_told .nil pass0 (pa_cons (pv 4) (pa_cons (pv 1) pa_nil))))) (pw_or1 (pt_not (pt_val (pe_call G__law_renamings_told (hr.mono (by first | decide | omega)) (by rfl) T.g__law_renamings_told T.F__law_renamings_told.kp T.b__law_renamings_told .nil pass0 (pa_cons (pv 2) (pa_cons (pv 1) pa_nil)))))))))
  (pss_one (ps_ret pe_bl))
  pss_nil)
  (pss_cons (ps_set (i := 6) sc_law.nd rfl (Or.inl rfl) (pe_call G__law_turned (hr.mono (by first | decide | omega)) (by rfl) T.g__law_turned T.F__law_turned.kp T.b__law_turned .nil pass0 (pa_cons (pv 4) (pa_cons (pv 2) pa_nil))))
  (pss_cons (ps_set (i := 7) sc_law.nd rfl (Or.inl rfl) (Gx.pe_joinG pe_str (pe_lc (own := [("sign", 8)]) (g := gName 8) (tt := tYes) (by rfl) sc_law.nd (pi_str pe_str) (blkOk_by (N := ["script", "numbers", "to", "size", "text", "k", "due", "back", "sign", "pattern"]) (sc := defScope s_law) (by decide +kernel)) (fun _ _ _ _ _ => (pg_name (i := 8) sc_law.nd rfl (Or.inl rfl))) (fun _ _ _ _ _ => pts_nil) (fun _ _ _ _ _ => (pe_ix ix_str pe_str (pe_bm PySem.F.plainAttrs_str PySem.F.slot_str_index PySem.F.type_str_index mt_sindex (pv 2) (pa_cons (pv 8) pa_nil) : PE _ _ (tBM K _ _ _ _)) (fun _ _ => rfl))))))
  (pss_cons (ps_if (PW.pt (pw_or (pt_not (pt_val (pe_call G__law_same (hr.mono (by first | decide | omega)) (by rfl) T.g__law_same T.F__law_same.kp T.b__law_same .nil pass0 (pa_cons (pe_call G_renamed (hr.mono (by first | decide | omega)) (by rfl) T.g_renamed T.F_renamed.kp T.b_renamed .nil pass0 (pa_cons (pv 4) (pa_cons (pv 2) pa_nil))) (pa_cons (pv 6) pa_nil))))) (pw_or1 (pt_not (pt_val (pe_call G__law_same (hr.mono (by first | decide | omega)) (by rfl) T.g__law_same T.F__law_same.kp T.b__law_same .nil pass0 (pa_cons (pe_call G_renaming_back (hr.mono (by first | decide | omega)) (by rfl) T.g_renaming_back T.F_renaming_back.kp T.b_renaming_back .nil pass0 (pa_cons (pv 2) pa_nil)) (pa_cons (pv 7) pa_nil))))))))
  (pss_one (ps_ret pe_bl))
  pss_nil)
  (pss_cons (ps_if (PW.pt (pw_or (pt_not (pt_val (pe_call G__law_same (hr.mono (by first | decide | omega)) (by rfl) T.g__law_same T.F__law_same.kp T.b__law_same .nil pass0 (pa_cons (pe_call G_renamed (hr.mono (by first | decide | omega)) (by rfl) T.g_renamed T.F_renamed.kp T.b_renamed .nil pass0 (pa_cons (pv 6) (pa_cons (pv 7) pa_nil))) (pa_cons (pv 4) pa_nil))))) (pw_or1 (pt_not (pt_val (pe_call G__law_same (hr.mono (by first | decide | omega)) (by rfl) T.g__law_same T.F__law_same.kp T.b__law_same .nil pass0 (pa_cons (pe_call G_renamed (hr.mono (by first | decide | omega)) (by rfl) T.g_renamed T.F_renamed.kp T.b_renamed .nil pass0 (pa_cons pe_str (pa_cons (pv 2) pa_nil))) (pa_cons pe_str pa_nil))))))))
  (pss_one (ps_ret pe_bl))
  pss_nil)
  (pss_cons (ps_set (i := 9) sc_law.nd rfl (Or.inl rfl) (pe_call G__law_pattern (hr.mono (by first | decide | omega)) (by rfl) T.g__law_pattern T.F__law_pattern.kp T.b__law_pattern .nil pass0 (pa_cons (pv 1) (pa_cons pe_int pa_nil))))
  (pss_cons (ps_if (pt_not (pt_val (pe_call G__law_same (hr.mono (by first | decide | omega)) (by rfl) T.g__law_same T.F__law_same.kp T.b__law_same .nil pass0 (pa_cons (pe_call G_renamed_pattern (hr.mono (by first | decide | omega)) (by rfl) T.g_renamed_pattern T.F_renamed_pattern.kp T.b_renamed_pattern .nil pass0 (pa_cons (pv 9) (pa_cons (pv 2) pa_nil))) (pa_cons (pe_call G__law_turned_pattern (hr.mono (by first | decide | omega)) (by rfl) T.g__law_turned_pattern T.F__law_turned_pattern.kp T.b__law_turned_pattern .nil pass0 (pa_cons (pv 9) (pa_cons (pv 2) pa_nil))) pa_nil)))))
  (pss_one (ps_ret pe_bl))
  pss_nil)
  (pss_one (ps_ret (pe_call G__law_language_told (hr.mono (by first | decide | omega)) (by rfl) T.g__law_language_told T.F__law_language_told.kp T.b__law_language_told .nil pass0 (pa_cons (pv 4) (pa_cons (pv 2) (pa_cons (pv 1) (pa_cons pe_int pa_nil)))))))))))))))))))), ?_⟩
    clear G__law_stream G__law_pick G__law_renaming G__law_same G__law_texts_told G__law_renamings_told G__law_language_told G__law_turned G__law_turned_pattern G__law_pattern G_renamed G_renaming_back G_renamed_pattern
    rw [st_law]
    try dsimp only [cxOf]
    walk_at "g"
    refine ⟨a, ns, _, rfl, hS, hlen, by omega, by omega, fun H1 p xs s1 np e1 hx dx => ?_⟩
    clear hS s1 np dx
    have hX : SqL K H1 p (xs.map V.int) := SqL.of e1
    clear e1
    walk_at "g"
    refine ⟨p, xs, _, rfl, hX, by omega, by omega, fun to ht => ?_⟩
    have h5 := ht.len
    walk_at "g"
    refine ⟨p, xs, _, _, rfl, hX, by omega, by omega, by omega, ?_⟩
    generalize hv0 : pk0 xs _ _ = v0
    have hv : v0 < 13 := by rw [← hv0]; exact pk0_lt xs _ (by decide)
    clear hv0
    walk_at "g"
    refine ⟨fun σ H' => H' = H1 ∧ ∃ z : Int, 0 ≤ z ∧ z ≤ 60 ∧ σ = [some (.ref a), some (.ref p), some (.str (Gx.mkS to)), some (.int z), none, none, none, none, none, none], ?_, ?_⟩
    · walk_at "g"
      refine ⟨p, xs, _, _, rfl, hX, by omega, by omega, by omega, ?_⟩
      generalize pk0 xs _ _ = v1
      walk_at "g"
      refine Gx.iteD (fun _ => ?_) (fun _ => ?_)
      · walk_at "g"
        refine ⟨p, xs, _, _, rfl, hX, by omega, by omega, by omega, ?_⟩
        generalize hv2 : pk0 xs _ _ = v2
        have hv3 : v2 < 60 := by rw [← hv2]; exact pk0_lt xs _ (by decide)
        walk_at "g"
        exact ⟨rfl, _, by omega, by omega, rfl⟩
      · walk_at "g"
        exact ⟨rfl, _, by omega, by omega, rfl⟩
    rintro σ H' ⟨rfl, z, z0, z60, rfl⟩
    walk_at "g"
    refine ⟨_, rfl, by omega, by omega, fun D nD => lc_range (lo := 0) (n := z.toNat) (fun j H2 => Same H' H2 ∧ ∃ ks : List Nat, H2 D = some (.lst (((ks.map fun k => [sg k]).map Gx.mkS).map V.str)) ∧ ks.length = j ∧ ∀ k ∈ ks, k < 5) ⟨Gx.Same.put (Same.refl H') nD, [], upd_same, rfl, fun t h => (List.not_mem_nil h).elim⟩ ?_ ?_⟩
    · rintro j H9 hj ⟨s9, ks, e9, kl, kok⟩
      walk_at "g"
      refine ⟨rfl, ?_⟩
      walk_at "g"
      refine ⟨p, xs, _, _, rfl, s9.seq hX, by omega, by omega, by omega, ?_⟩
      generalize hv : pk0 xs _ _ = v
      have hv' : v < 5 := by rw [← hv]; exact pk0_lt xs _ (by decide)
      walk_at "g"
      refine ⟨_, e9, Gx.lineL (by rw [List.length_map, List.length_map, List.length_map]; omega), Gx.Same.put s9 nD, ks ++ [v], ?_, by rw [List.length_append, kl]; rfl, fun t ht => ?_⟩
      · rw [upd_same, List.map_append, List.map_append, List.map_append]
        rfl
      · rcases List.mem_append.mp ht with h | h
        · exact kok t h
        · cases List.mem_singleton.mp h
          exact hv'
    · rintro H9 ⟨s9, ks, e9, kl, kok⟩
      obtain ⟨l, el, hll, hsg⟩ : ∃ l : List Nat, (ks.map fun k => [sg k]).flatten = l ∧ l.length ≤ 60 ∧ Sg l := by
        refine ⟨_, rfl, by rw [flat_sg, List.length_map]; omega, fun c hc => ?_⟩
        rw [flat_sg] at hc
        obtain ⟨k, hk, rfl⟩ := List.mem_map.mp hc
        exact sg_mem (kok k hk)
      walk_at "g"
      refine Gx.join0 (SqL.of e9) (by rw [el]; omega) ?_
      rw [el]
      replace hX := s9.seq hX
      clear s9 e9 el kok nD kl ks
      have okS : ∀ {l : List Nat}, Sg l → Gx.okD (.str (Gx.mkS l)) = true := fun h => h.cp.okD
      have dpS : ∀ {l : List Nat}, PyData.depth (.str (Gx.mkS l)) ≤ 20 := fun {l} => by simp [PyData.depth]
      walk_at "g"
      refine ⟨_, _, .str (Gx.mkS sgs), rfl, .str _, .str _, okS (fun c hc => hc), dpS, fun H2 s2 => ?_⟩
      replace hX := s2.seq hX
      clear s2
      walk_at "g"
      refine ⟨p, xs, l, rfl, hX, by omega, hsg, hll, fun H3 s3 => ?_⟩
      replace hX := s3.seq hX
      clear s3
      walk_at "g"
      refine ⟨p, xs, to, rfl, hX, by omega, ht, fun H4 s4 => ?_⟩
      replace hX := s4.seq hX
      clear s4
      walk_at "g"
      refine ⟨l, to, rfl, ht, hsg, by omega, fun H5 s5 => ?_⟩
      replace hX := s5.seq hX
      clear s5
      walk_at "g"
      refine fun D nD => Gx.lc_str (l := sgs) (fun i H' => Same H5 H' ∧ H' D = some (.lst ((((sgs.take i).map fun c => [sg (to.idxOf c)]).map Gx.mkS).map V.str))) ⟨Gx.Same.put (Same.refl H5) nD, upd_same⟩ ?_ ?_
      · rintro i c H6 hc ⟨s6, e6⟩
        have hil : i < 5 := (List.getElem?_eq_some_iff.mp hc).1
        have hm : c ∈ sgs := List.mem_of_getElem? hc
        have hx := ht.idx hm
        walk_at "g"
        refine ⟨rfl, ?_⟩
        walk_at "g"
        refine ⟨rfl, ?_⟩
        walk_at "g"
        refine ⟨_, _, to.idxOf c, [], rfl, rfl, occ_to ht hm, ?_⟩
        walk_at "g"
        refine ⟨_, e6, Gx.lineL (by simp; omega), Gx.Same.put s6 nD, ?_⟩
        rw [upd_same, List.take_add_one, hc, Option.toList_some, List.map_append, List.map_append, List.map_append]
        rfl
      · rintro H6 ⟨s6, e6⟩
        walk_at "g"
        refine Gx.join0 (ls := sgs.map fun c => [sg (to.idxOf c)]) (SqL.of e6) (by rw [flat_one, List.length_map]; decide) ?_
        rw [flat_one, show (sgs.map fun c => sg (to.idxOf c)) = back to from rfl]
        replace hX := s6.seq hX
        clear s6 e6 nD
        walk_at "g"
        refine ⟨l, to, rfl, ht, hsg, by omega, fun H7 s7 => ?_⟩
        replace hX := s7.seq hX
        clear s7
        walk_at "g"
        refine ⟨_, _, .str (Gx.mkS (ren to l)), rfl, .str _, .str _, okS (ht.sgOf l), dpS, fun H8 s8 => ?_⟩
        replace hX := s8.seq hX
        clear s8
        walk_at "g"
        refine ⟨to, rfl, ht, fun H9 s9 => ?_⟩
        replace hX := s9.seq hX
        clear s9
        walk_at "g"
        refine ⟨_, _, .str (Gx.mkS (back to)), rfl, .str _, .str _, okS ht.ofBack.toSg, dpS, fun HA sA => ?_⟩
        replace hX := sA.seq hX
        clear sA
        walk_at "g"
        refine ⟨ren to l, back to, rfl, ht.ofBack, ht.sgOf l, by unfold ren; rw [List.length_map]; omega, fun HB sB => ?_⟩
        rw [ht.back_ren hsg]
        replace hX := sB.seq hX
        clear sB
        walk_at "g"
        refine ⟨_, _, .str (Gx.mkS l), rfl, .str _, .str _, okS hsg, dpS, fun HC sC => ?_⟩
        replace hX := sC.seq hX
        clear sC
        walk_at "g"
        refine ⟨[], to, rfl, ht, fun c hc => (List.not_mem_nil hc).elim, by decide, fun HD sD => ?_⟩
        replace hX := sD.seq hX
        clear sD
        walk_at "g"
        refine ⟨_, _, .str (Gx.mkS []), rfl, .str _, .str _, okS (fun c hc => (List.not_mem_nil hc).elim), dpS, fun HE sE => ?_⟩
        replace hX := sE.seq hX
        clear sE
        walk_at "g"
        refine ⟨p, xs, _, rfl, hX, by omega, by omega, fun HF x pt sF hp ok dp => ?_⟩
        replace hX := sF.seq hX
        clear sF
        have ok' := Pat.ok_mono (n := 1000) (by decide) pt ok
        walk_at "g"
        refine ⟨x, pt, to, rfl, hp, ok', ht, by omega, fun HG y1 sG hy1 => ?_⟩
        replace hX := sG.seq hX
        replace hp := Gx.dp_same sG _ _ hp
        clear sG
        walk_at "g"
        refine ⟨x, pt, to, rfl, hp, ok', ht, by omega, fun HH y2 sH hy2 => ?_⟩
        replace hX := sH.seq hX
        replace hy1 := Gx.dp_same sH _ _ hy1
        clear sH
        walk_at "g"
        refine ⟨y1, y2, patD (pt.rn to), rfl, hy1, hy2, Pat.okD _ (Pat.rn_ok ht pt ok), by rw [Pat.depD, Pat.rn_depth]; exact dp, fun HI sI => ?_⟩
        replace hX := sI.seq hX
        clear sI
        walk_at "g"
        refine ⟨p, xs, l, to, _, rfl, hX, hsg, hll, ht, by omega, by omega, fun HJ sJ => ?_⟩
        exact q _
end
end K03
open PySem PySem.W PyProof.Rows
set_option maxHeartbeats 0 in
theorem PySem.Challenge.cw_textsputback_k03_signs_and_renamings_holds : PySem.Challenge.rw_textsputback_k03_signs_and_renamings.Holds := by
  w_on; o_law; k_head; (case hw => w_witness2)
  k_fill
  refine L2.walk_of (l := PySem.Challenge.rw_textsputback_k03_signs_and_renamings) (n := 63) (k := 24) (x := "script") (CX := fun _ => L2.CX0) (sp := fun w => K03.spLaw _) rfl (by decide) rfl ⟨rfl, by decide, by decide⟩ (fun w h Y => PySem.W.kIn_of Y) ?F (fun _ _ a ns hl _ hS => ⟨a, ns, rfl, hS, hl, fun _ => rfl⟩) (fun _ _ _ _ _ h => h)
  case F =>
    intro w mg fa h KX G hmg
    obtain ⟨T, e⟩ : ∃ T : K03.Txt _ mg w, T.f_law = fa := by
      refine' K03.txt_mk KX G ?ga_LensError ?k_LensError ?x_LensError ?bP_LensError ?tP_LensError ?iP_LensError ?ga_Machine ?k_Machine ?pg_Machine ?hd_Machine ?po_Machine ?sa_Machine ?mk_Machine ?n_Machine_rows ?n_Machine_finals ?ha_Machine ?hm_Machine ?hn_ ?htk_ ?ga_is_text ?l_is_text ?cc_is_text ?k_is_text ?ga_is_renaming ?l_is_renaming ?cc_is_renaming ?k_is_renaming ?ga_renamed ?l_renamed ?cc_renamed ?k_renamed ?ga_renaming_back ?l_renaming_back ?cc_renaming_back ?k_renaming_back ?ga_reached ?l_reached ?cc_reached ?k_reached ?ga_refined ?l_refined ?cc_refined ?k_refined ?ga_classes ?l_classes ?cc_classes ?k_classes ?ga_least ?l_least ?cc_least ?k_least ?ga_Machine_init ?i_Machine_init ?l_Machine_init ?cc_Machine_init ?k_Machine_init ?pa_Machine_states ?pb_Machine_states ?pc_Machine_states ?pd_Machine_states ?l_Machine_states ?cc_Machine_states ?k_Machine_states ?ga_Machine_state_after ?i_Machine_state_after ?l_Machine_state_after ?cc_Machine_state_after ?k_Machine_state_after ?ga_Machine_contains ?i_Machine_contains ?l_Machine_contains ?cc_Machine_contains ?k_Machine_contains ?ga_Machine_eq ?i_Machine_eq ?l_Machine_eq ?cc_Machine_eq ?k_Machine_eq ?ga_renamed_language ?l_renamed_language ?cc_renamed_language ?k_renamed_language ?ga_renamed_pattern ?l_renamed_pattern ?cc_renamed_pattern ?k_renamed_pattern ?ga__law_mix ?l__law_mix ?cc__law_mix ?k__law_mix ?ga__law_stream ?l__law_stream ?cc__law_stream ?k__law_stream ?ga__law_pick ?l__law_pick ?cc__law_pick ?k__law_pick ?ga__law_kind ?l__law_kind ?cc__law_kind ?k__law_kind ?ga__law_same ?l__law_same ?cc__law_same ?k__law_same ?ga__law_says ?l__law_says ?cc__law_says ?k__law_says ?ga__law_foreign ?l__law_foreign ?cc__law_foreign ?k__law_foreign ?ga__law_char ?l__law_char ?cc__law_char ?k__law_char ?ga__law_renaming ?l__law_renaming ?cc__law_renaming ?k__law_renaming ?ga__law_signs ?l__law_signs ?cc__law_signs ?k__law_signs ?ga__law_leaf ?l__law_leaf ?cc__law_leaf ?k__law_leaf ?ga__law_pattern ?l__law_pattern ?cc__law_pattern ?k__law_pattern ?ga__law_turned ?l__law_turned ?cc__law_turned ?k__law_turned ?ga__law_turned_pattern ?l__law_turned_pattern ?cc__law_turned_pattern ?k__law_turned_pattern ?ga__law_apart ?l__law_apart ?cc__law_apart ?k__law_apart ?ga__law_least ?l__law_least ?cc__law_least ?k__law_least ?ga__law_is_machine ?l__law_is_machine ?cc__law_is_machine ?k__law_is_machine ?ga__law_texts_told ?l__law_texts_told ?cc__law_texts_told ?k__law_texts_told ?ga__law_renamings_told ?l__law_renamings_told ?cc__law_renamings_told ?k__law_renamings_told ?ga__law_language_told ?l__law_language_told ?cc__law_language_told ?k__law_language_told ?ga_law ?l_law ?cc_law ?k_law ?zz_abs ?zz_bool ?zz_int ?zz_isinstance ?zz_len ?zz_list ?zz_range ?zz_sorted ?zz_str ?zz_tuple ?ga_MOST_STATES ?ga_SIGNS ?ga_PLACES ?dw_PLACES ?di_PLACES hmg
      (case ga_LensError => first | k_is | rfl | decide +kernel)
      (case k_LensError => first | k_is | rfl | decide +kernel)
      (case x_LensError => k_exc)
      (case bP_LensError => first | k_is | rfl | decide +kernel)
      (case tP_LensError => first | k_is | rfl | decide +kernel)
      (case iP_LensError => first | k_is | rfl | decide +kernel)
      (case ga_Machine => first | k_is | rfl | decide +kernel)
      (case k_Machine => first | k_is | rfl | decide +kernel)
      (case pg_Machine => first | k_is | rfl | decide +kernel)
      (case hd_Machine => first | k_is | rfl | decide +kernel)
      (case po_Machine => first | k_is | rfl | decide +kernel)
      (case sa_Machine => first | k_is | rfl | decide +kernel)
      (case mk_Machine => first | k_is | rfl | decide +kernel)
      (case n_Machine_rows => first | k_is | rfl | decide +kernel)
      (case n_Machine_finals => first | k_is | rfl | decide +kernel)
      (case ha_Machine => first | k_is | rfl | decide +kernel)
      (case hm_Machine => first | k_is | rfl | decide +kernel)
      (case hn_ => first | k_is | rfl | decide +kernel)
      (case htk_ => first | k_is | rfl | decide +kernel)
      (case ga_is_text => first | k_is | rfl | decide +kernel)
      (case l_is_text => first | k_is | rfl | decide +kernel)
      (case cc_is_text => first | k_is | rfl | decide +kernel)
      (case k_is_text => first | k_is | rfl | decide +kernel)
      (case ga_is_renaming => first | k_is | rfl | decide +kernel)
      (case l_is_renaming => first | k_is | rfl | decide +kernel)
      (case cc_is_renaming => first | k_is | rfl | decide +kernel)
      (case k_is_renaming => first | k_is | rfl | decide +kernel)
      (case ga_renamed => first | k_is | rfl | decide +kernel)
      (case l_renamed => first | k_is | rfl | decide +kernel)
      (case cc_renamed => first | k_is | rfl | decide +kernel)
      (case k_renamed => first | k_is | rfl | decide +kernel)
      (case ga_renaming_back => first | k_is | rfl | decide +kernel)
      (case l_renaming_back => first | k_is | rfl | decide +kernel)
      (case cc_renaming_back => first | k_is | rfl | decide +kernel)
      (case k_renaming_back => first | k_is | rfl | decide +kernel)
      (case ga_reached => first | k_is | rfl | decide +kernel)
      (case l_reached => first | k_is | rfl | decide +kernel)
      (case cc_reached => first | k_is | rfl | decide +kernel)
      (case k_reached => first | k_is | rfl | decide +kernel)
      (case ga_refined => first | k_is | rfl | decide +kernel)
      (case l_refined => first | k_is | rfl | decide +kernel)
      (case cc_refined => first | k_is | rfl | decide +kernel)
      (case k_refined => first | k_is | rfl | decide +kernel)
      (case ga_classes => first | k_is | rfl | decide +kernel)
      (case l_classes => first | k_is | rfl | decide +kernel)
      (case cc_classes => first | k_is | rfl | decide +kernel)
      (case k_classes => first | k_is | rfl | decide +kernel)
      (case ga_least => first | k_is | rfl | decide +kernel)
      (case l_least => first | k_is | rfl | decide +kernel)
      (case cc_least => first | k_is | rfl | decide +kernel)
      (case k_least => first | k_is | rfl | decide +kernel)
      (case ga_Machine_init => first | k_is | rfl | decide +kernel)
      (case i_Machine_init => first | k_is | rfl | decide +kernel)
      (case l_Machine_init => first | k_is | rfl | decide +kernel)
      (case cc_Machine_init => first | k_is | rfl | decide +kernel)
      (case k_Machine_init => first | k_is | rfl | decide +kernel)
      (case pa_Machine_states => first | k_is | rfl | decide +kernel)
      (case pb_Machine_states => first | k_is | rfl | decide +kernel)
      (case pc_Machine_states => first | k_is | rfl | decide +kernel)
      (case pd_Machine_states => first | k_is | rfl | decide +kernel)
      (case l_Machine_states => first | k_is | rfl | decide +kernel)
      (case cc_Machine_states => first | k_is | rfl | decide +kernel)
      (case k_Machine_states => first | k_is | rfl | decide +kernel)
      (case ga_Machine_state_after => first | k_is | rfl | decide +kernel)
      (case i_Machine_state_after => first | k_is | rfl | decide +kernel)
      (case l_Machine_state_after => first | k_is | rfl | decide +kernel)
      (case cc_Machine_state_after => first | k_is | rfl | decide +kernel)
      (case k_Machine_state_after => first | k_is | rfl | decide +kernel)
      (case ga_Machine_contains => first | k_is | rfl | decide +kernel)
      (case i_Machine_contains => first | k_is | rfl | decide +kernel)
      (case l_Machine_contains => first | k_is | rfl | decide +kernel)
      (case cc_Machine_contains => first | k_is | rfl | decide +kernel)
      (case k_Machine_contains => first | k_is | rfl | decide +kernel)
      (case ga_Machine_eq => first | k_is | rfl | decide +kernel)
      (case i_Machine_eq => first | k_is | rfl | decide +kernel)
      (case l_Machine_eq => first | k_is | rfl | decide +kernel)
      (case cc_Machine_eq => first | k_is | rfl | decide +kernel)
      (case k_Machine_eq => first | k_is | rfl | decide +kernel)
      (case ga_renamed_language => first | k_is | rfl | decide +kernel)
      (case l_renamed_language => first | k_is | rfl | decide +kernel)
      (case cc_renamed_language => first | k_is | rfl | decide +kernel)
      (case k_renamed_language => first | k_is | rfl | decide +kernel)
      (case ga_renamed_pattern => first | k_is | rfl | decide +kernel)
      (case l_renamed_pattern => first | k_is | rfl | decide +kernel)
      (case cc_renamed_pattern => first | k_is | rfl | decide +kernel)
      (case k_renamed_pattern => first | k_is | rfl | decide +kernel)
      (case ga__law_mix => first | k_is | rfl | decide +kernel)
      (case l__law_mix => first | k_is | rfl | decide +kernel)
      (case cc__law_mix => first | k_is | rfl | decide +kernel)
      (case k__law_mix => first | k_is | rfl | decide +kernel)
      (case ga__law_stream => first | k_is | rfl | decide +kernel)
      (case l__law_stream => first | k_is | rfl | decide +kernel)
      (case cc__law_stream => first | k_is | rfl | decide +kernel)
      (case k__law_stream => first | k_is | rfl | decide +kernel)
      (case ga__law_pick => first | k_is | rfl | decide +kernel)
      (case l__law_pick => first | k_is | rfl | decide +kernel)
      (case cc__law_pick => first | k_is | rfl | decide +kernel)
      (case k__law_pick => first | k_is | rfl | decide +kernel)
      (case ga__law_kind => first | k_is | rfl | decide +kernel)
      (case l__law_kind => first | k_is | rfl | decide +kernel)
      (case cc__law_kind => first | k_is | rfl | decide +kernel)
      (case k__law_kind => first | k_is | rfl | decide +kernel)
      (case ga__law_same => first | k_is | rfl | decide +kernel)
      (case l__law_same => first | k_is | rfl | decide +kernel)
      (case cc__law_same => first | k_is | rfl | decide +kernel)
      (case k__law_same => first | k_is | rfl | decide +kernel)
      (case ga__law_says => first | k_is | rfl | decide +kernel)
      (case l__law_says => first | k_is | rfl | decide +kernel)
      (case cc__law_says => first | k_is | rfl | decide +kernel)
      (case k__law_says => first | k_is | rfl | decide +kernel)
      (case ga__law_foreign => first | k_is | rfl | decide +kernel)
      (case l__law_foreign => first | k_is | rfl | decide +kernel)
      (case cc__law_foreign => first | k_is | rfl | decide +kernel)
      (case k__law_foreign => first | k_is | rfl | decide +kernel)
      (case ga__law_char => first | k_is | rfl | decide +kernel)
      (case l__law_char => first | k_is | rfl | decide +kernel)
      (case cc__law_char => first | k_is | rfl | decide +kernel)
      (case k__law_char => first | k_is | rfl | decide +kernel)
      (case ga__law_renaming => first | k_is | rfl | decide +kernel)
      (case l__law_renaming => first | k_is | rfl | decide +kernel)
      (case cc__law_renaming => first | k_is | rfl | decide +kernel)
      (case k__law_renaming => first | k_is | rfl | decide +kernel)
      (case ga__law_signs => first | k_is | rfl | decide +kernel)
      (case l__law_signs => first | k_is | rfl | decide +kernel)
      (case cc__law_signs => first | k_is | rfl | decide +kernel)
      (case k__law_signs => first | k_is | rfl | decide +kernel)
      (case ga__law_leaf => first | k_is | rfl | decide +kernel)
      (case l__law_leaf => first | k_is | rfl | decide +kernel)
      (case cc__law_leaf => first | k_is | rfl | decide +kernel)
      (case k__law_leaf => first | k_is | rfl | decide +kernel)
      (case ga__law_pattern => first | k_is | rfl | decide +kernel)
      (case l__law_pattern => first | k_is | rfl | decide +kernel)
      (case cc__law_pattern => first | k_is | rfl | decide +kernel)
      (case k__law_pattern => first | k_is | rfl | decide +kernel)
      (case ga__law_turned => first | k_is | rfl | decide +kernel)
      (case l__law_turned => first | k_is | rfl | decide +kernel)
      (case cc__law_turned => first | k_is | rfl | decide +kernel)
      (case k__law_turned => first | k_is | rfl | decide +kernel)
      (case ga__law_turned_pattern => first | k_is | rfl | decide +kernel)
      (case l__law_turned_pattern => first | k_is | rfl | decide +kernel)
      (case cc__law_turned_pattern => first | k_is | rfl | decide +kernel)
      (case k__law_turned_pattern => first | k_is | rfl | decide +kernel)
      (case ga__law_apart => first | k_is | rfl | decide +kernel)
      (case l__law_apart => first | k_is | rfl | decide +kernel)
      (case cc__law_apart => first | k_is | rfl | decide +kernel)
      (case k__law_apart => first | k_is | rfl | decide +kernel)
      (case ga__law_least => first | k_is | rfl | decide +kernel)
      (case l__law_least => first | k_is | rfl | decide +kernel)
      (case cc__law_least => first | k_is | rfl | decide +kernel)
      (case k__law_least => first | k_is | rfl | decide +kernel)
      (case ga__law_is_machine => first | k_is | rfl | decide +kernel)
      (case l__law_is_machine => first | k_is | rfl | decide +kernel)
      (case cc__law_is_machine => first | k_is | rfl | decide +kernel)
      (case k__law_is_machine => first | k_is | rfl | decide +kernel)
      (case ga__law_texts_told => first | k_is | rfl | decide +kernel)
      (case l__law_texts_told => first | k_is | rfl | decide +kernel)
      (case cc__law_texts_told => first | k_is | rfl | decide +kernel)
      (case k__law_texts_told => first | k_is | rfl | decide +kernel)
      (case ga__law_renamings_told => first | k_is | rfl | decide +kernel)
      (case l__law_renamings_told => first | k_is | rfl | decide +kernel)
      (case cc__law_renamings_told => first | k_is | rfl | decide +kernel)
      (case k__law_renamings_told => first | k_is | rfl | decide +kernel)
      (case ga__law_language_told => first | k_is | rfl | decide +kernel)
      (case l__law_language_told => first | k_is | rfl | decide +kernel)
      (case cc__law_language_told => first | k_is | rfl | decide +kernel)
      (case k__law_language_told => first | k_is | rfl | decide +kernel)
      (case ga_law => first | k_is | rfl | decide +kernel)
      (case l_law => first | k_is | rfl | decide +kernel)
      (case cc_law => first | k_is | rfl | decide +kernel)
      (case k_law => first | k_is | rfl | decide +kernel)
      (case zz_abs => first | k_is | rfl | decide +kernel)
      (case zz_bool => first | k_is | rfl | decide +kernel)
      (case zz_int => first | k_is | rfl | decide +kernel)
      (case zz_isinstance => first | k_is | rfl | decide +kernel)
      (case zz_len => first | k_is | rfl | decide +kernel)
      (case zz_list => first | k_is | rfl | decide +kernel)
      (case zz_range => first | k_is | rfl | decide +kernel)
      (case zz_sorted => first | k_is | rfl | decide +kernel)
      (case zz_str => first | k_is | rfl | decide +kernel)
      (case zz_tuple => first | k_is | rfl | decide +kernel)
      (case ga_MOST_STATES => first | k_is | rfl | decide +kernel)
      (case ga_SIGNS => first | k_is | rfl | decide +kernel)
      (case ga_PLACES => first | k_is | rfl | decide +kernel)
      (case dw_PLACES => first | k_is | rfl | decide +kernel)
      (case di_PLACES => first | k_is | rfl | decide +kernel)
    subst e
    exact ⟨T.fd_law, T.bt_law, fun base _ _ => K03.ok_law T⟩
