import PyProof.Rows.All
import Wide.All
import OpenK.AllK
import Wide.FinOn
import PySem.Challenge.RW_textsputback_k39_pieces_that_stay
import HandS.TupAny
import KE.OsSetLaws
import HandS.ForMost
import HandS.ForExc
import HandS.IsInst
import HandS.Style
import HandS.Property
import HandS.Codes
import HandS.Star
import HandS.CallSlots
import HandS.WordsExc
import HandS.ExcIs
import HandS.SortInts
import HandS.DictComp
import HandS.TupLen
import HandS.Conv
import HandS.ListItems
import HandS.Walk
import HandS.Defaults
import HandS.MakeKwOnly
import HandS.MakeKw
import HandS.Zip
import KE.KDictKeyed
import KE.GoesMore
import PyProof.EnumMake
import PyProof.Draws
set_option Elab.async false
set_option linter.all false
set_option maxRecDepth 100000
set_option maxHeartbeats 400000
/-! ### my short words for readings -/
namespace Gx
open PySem PySem.Spec PyProof.Rows L2
section
variable {σ : L2.St} {H : Hp} {Q : VK} {D : Ends} {ta tb te : TE} {t u : TS} {x y v : V} {K : PySem.W.Frag}
theorem seq (h : t { D with nx := u D } σ H) : tSeq t u D σ H := h
theorem nx {n : L2.St → Hp → Prop} {r : VK} {b c : L2.St → Hp → Prop} (h : n σ H) : Ends.nx ⟨n, r, b, c⟩ σ H := h
theorem rt {n : L2.St → Hp → Prop} {r : VK} {b c : L2.St → Hp → Prop} (h : r v H) : Ends.rt ⟨n, r, b, c⟩ v H := h
theorem bk {n : L2.St → Hp → Prop} {r : VK} {b c : L2.St → Hp → Prop} (h : b σ H) : Ends.bk ⟨n, r, b, c⟩ σ H := h
theorem ct {n : L2.St → Hp → Prop} {r : VK} {b c : L2.St → Hp → Prop} (h : c σ H) : Ends.ct ⟨n, r, b, c⟩ σ H := h
theorem next (h : D.nx σ H) : tNext D σ H := h
theorem brk (h : D.bk σ H) : tBreak D σ H := h
theorem cont (h : D.ct σ H) : tCont D σ H := h
theorem asg {g : TG} (h : te σ H fun x H1 => g x σ H1 D.nx) : tAsg te g D σ H := h
theorem ret (h : te σ H D.rt) : tRet te D σ H := h
theorem retN (h : D.rt .non H) : tRetN D σ H := h
theorem drop (h : te σ H fun _ H1 => D.nx σ H1) : tDrop te D σ H := h
theorem ifs {c : TT} (h : c σ H fun b H1 => if b = true then t D σ H1 else u D σ H1) : tIfS c t u D σ H := h
theorem var {i : Nat} (e : σ[i]? = some (some v)) (h : Q v H) : tVar i σ H Q := ⟨v, e, h⟩
theorem con (h : Q v H) : tC v σ H Q := h
theorem op {r : R2} (h : ta σ H fun x H1 => tb σ H1 fun y H2 => r x y H2 Q) : tOp r ta tb σ H Q := h
theorem un {r : V → Hp → VK → Prop} (h : ta σ H fun x H1 => r x H1 Q) : tUn r ta σ H Q := h
theorem i0 {g : Int → Int → V} {i j : Int} (h : Q (g i j) H) : rI0 g (.int i) (.int j) H Q := ⟨i, j, rfl, rfl, h⟩
theorem i1 {C : Int → Int → Prop} {g : Int → Int → V} {i j : Int} (c : C i j) (h : Q (g i j) H) : rI C g (.int i) (.int j) H Q := ⟨i, j, rfl, rfl, c, h⟩
theorem iu {g : Int → V} {i : Int} (h : Q (g i) H) : rU g (.int i) H Q := ⟨i, rfl, h⟩
theorem eqI {i j : Int} (h : Q (.bl (decide (i = j))) H) : rEq (.int i) (.int j) H Q := ⟨rfl, by rw [show decide (V.int i = V.int j) = decide (i = j) from by simp]; exact h⟩
theorem eqS {i j : Str} (h : Q (.bl (decide (i = j))) H) : rEq (.str i) (.str j) H Q := ⟨rfl, by rw [show decide (V.str i = V.str j) = decide (i = j) from by simp]; exact h⟩
theorem eqB {i j : Bool} (h : Q (.bl (decide (i = j))) H) : rEq (.bl i) (.bl j) H Q := ⟨rfl, by rw [show decide (V.bl i = V.bl j) = decide (i = j) from by simp]; exact h⟩
theorem neI {i j : Int} (h : Q (.bl (!decide (i = j))) H) : rNe (.int i) (.int j) H Q := ⟨rfl, by rw [show decide (V.int i = V.int j) = decide (i = j) from by simp]; exact h⟩
theorem neS {i j : Str} (h : Q (.bl (!decide (i = j))) H) : rNe (.str i) (.str j) H Q := ⟨rfl, by rw [show decide (V.str i = V.str j) = decide (i = j) from by simp]; exact h⟩
theorem isB {a b : Bool} (h : Q (.bl (decide (a = b))) H) : rIsB (.bl a) (.bl b) H Q := ⟨a, b, rfl, rfl, h⟩
theorem name {i : Nat} {N : L2.St → Hp → Prop} (h : N (σ.set i (some v)) H) : gName i v σ H N := h
theorem test {Q : Bool → Hp → Prop} (h : te σ H fun x H' => ∃ k, x = .bl k ∧ Q k H') : tTest te σ H Q := h
theorem tB {Q : Bool → Hp → Prop} (h : te σ H fun x H' => ∃ k, x = .bl k ∧ Q k H') : tB te σ H Q := h
theorem exb {b : Bool} {p : Bool → Prop} (h : p b) : ∃ k, V.bl b = .bl k ∧ p k := ⟨b, rfl, h⟩
theorem exi {b : Int} {p : Int → Prop} (h : p b) : ∃ k, V.int b = .int k ∧ p k := ⟨b, rfl, h⟩
theorem exs {b : Str} {p : Str → Prop} (h : p b) : ∃ k, V.str b = .str k ∧ p k := ⟨b, rfl, h⟩
theorem exr {b : Addr} {p : Addr → Prop} (h : p b) : ∃ k, V.ref b = .ref k ∧ p k := ⟨b, rfl, h⟩
theorem not {c : TT} {Q : Bool → Hp → Prop} (h : c σ H fun b H1 => Q (!b) H1) : tNot c σ H Q := h
theorem and {c d : TT} {Q : Bool → Hp → Prop} (h : c σ H fun b H1 => if b = true then d σ H1 Q else Q false H1) : tAnd c d σ H Q := h
theorem or {c d : TT} {Q : Bool → Hp → Prop} (h : c σ H fun b H1 => if b = true then Q true H1 else d σ H1 Q) : tOr c d σ H Q := h
theorem notV (h : te σ H fun x H1 => ∃ c, x = .bl c ∧ Q (.bl (!c)) H1) : tNotV te σ H Q := h
theorem andV (h : ta σ H fun x H1 => ∃ c, x = .bl c ∧ if c = true then tb σ H1 Q else Q (.bl false) H1) : tAndV ta tb σ H Q := h
theorem orV (h : ta σ H fun x H1 => ∃ c, x = .bl c ∧ if c = true then Q (.bl true) H1 else tb σ H1 Q) : tOrV ta tb σ H Q := h
theorem ifE {c : TT} (h : c σ H fun b H1 => if b = true then ta σ H1 Q else tb σ H1 Q) : tIf c ta tb σ H Q := h
theorem cb {r : List V → Hp → VK → Prop} {t : TA} (h : t σ H fun vs H1 => r vs H1 Q) : tCB r t σ H Q := h
theorem anil {Q : List V → Hp → Prop} (h : Q [] H) : tNil σ H Q := h
theorem acons {tr : TA} {Q : List V → Hp → Prop} (h : te σ H fun x H1 => tr σ H1 fun xs H2 => Q (x :: xs) H2) : tCons te tr σ H Q := h
def CallK (sp : Sp) (dvs : List V) (E : XK) (vs : List V) (H : Hp) (Q : VK) : Prop := sp (vs ++ dvs) H Q E
theorem call {sp : Sp} {dvs : List V} {E : XK} {t : TA} (h : t σ H fun vs H1 => CallK sp dvs E vs H1 Q) : tCall sp dvs E t σ H Q := h
theorem call0 {sp : Sp} {E : XK} {vs : List V} (h : sp vs H Q E) : CallK sp [] E vs H Q := by
  unfold CallK
  rw [List.append_nil]
  exact h
/-- a new tuple, a new list is laid -/
def NewT (xs : List V) (H : Hp) (Q : VK) : Prop := xs.length ≤ sizeLine ∧ ∀ p, H p = none → Q (.ref p) (upd H p (.tup xs))
def NewL (xs : List V) (H : Hp) (Q : VK) : Prop := xs.length ≤ sizeLine ∧ ∀ p, H p = none → Q (.ref p) (upd H p (.lst xs))
theorem tup {t : TA} (h : t σ H fun xs H1 => NewT xs H1 Q) : tTup t σ H Q := h
theorem lst {t : TA} (h : t σ H fun xs H1 => NewL xs H1 Q) : tLst t σ H Q := h
theorem sl {r : V → Option Int → Option Int → Hp → VK → Prop} {tl th : TO} (h : te σ H fun x H1 => tl σ H1 fun l H2 => th σ H2 fun u H3 => r x l u H3 Q) : tSl r te tl th σ H Q := h
theorem nopart {Q : Option Int → Hp → Prop} (h : Q none H) : tNoPart σ H Q := h
theorem part {Q : Option Int → Hp → Prop} (h : te σ H fun x H1 => ∃ i, x = .int i ∧ Q (some i) H1) : tPart te σ H Q := h
theorem slS {z : Str} {lo hi : Option Int} (e : z.length ≤ sizeLine) (h : Q (.str (cutS z lo hi)) H) : rSlS (.str z) lo hi H Q := ⟨z, rfl, e, h⟩
theorem slL {a : Addr} {xs : List V} {lo hi : Option Int} (e : SqL K H a xs) (h : ∀ p, H p = none → Q (.ref p) (upd H p (.lst (cutV xs lo hi)))) : rSlL K (.ref a) lo hi H Q := ⟨a, xs, rfl, e, h⟩
theorem aug {i : Nat} {ti : TIp} (e : σ[i]? = some (some x)) (h : te σ H fun y H1 => ti x y H1 fun z H2 => D.nx (σ.set i (some z)) H2) : tAug i te ti D σ H := ⟨x, e, h⟩
theorem ipi {f : Int → Int → Int} {i j : Int} (h : Q (.int (f i j)) H) : ipI f (.int i) (.int j) H Q := ⟨i, j, rfl, rfl, h⟩
/-! built-ins by name -/
def rLenS : List V → Hp → VK → Prop := fun xs H Q => ∃ z, xs = [.str z] ∧ z.length ≤ sizeLine ∧ Q (.int z.length) H
def rLenQ (K : PySem.W.Frag) : List V → Hp → VK → Prop := fun xs H Q => ∃ p ys, xs = [.ref p] ∧ (SqL K H p ys ∨ SqT K H p ys) ∧ Q (.int ys.length) H
def rAbs : List V → Hp → VK → Prop := fun xs H Q => ∃ i, xs = [.int i] ∧ Q (.int (if i < 0 then -i else i)) H
def rMin2 : List V → Hp → VK → Prop := fun xs H Q => ∃ i j, xs = [.int i, .int j] ∧ Q (.int (if j < i then j else i)) H
def rMax2 : List V → Hp → VK → Prop := fun xs H Q => ∃ i j, xs = [.int i, .int j] ∧ Q (.int (if j > i then j else i)) H
def rInt1 : List V → Hp → VK → Prop := fun xs H Q => (∃ i, xs = [.int i] ∧ Q (.int i) H) ∨ ∃ k, xs = [.bl k] ∧ Q (.int (if k then 1 else 0)) H
def rAddS : R2 := fun x y H Q => ∃ i j, x = .str i ∧ y = .str j ∧ i.length + j.length ≤ sizeLine ∧ Q (.str (i ++ j)) H
theorem addS {i j : Str} (c : i.length + j.length ≤ sizeLine) (h : Q (.str (i ++ j)) H) : rAddS (.str i) (.str j) H Q := ⟨i, j, rfl, rfl, c, h⟩
theorem lenS {z : Str} (c : z.length ≤ sizeLine) (h : Q (.int z.length) H) : rLenS [.str z] H Q := ⟨z, rfl, c, h⟩
theorem lenL {p : Addr} {xs : List V} (c : SqL K H p xs) (h : Q (.int xs.length) H) : rLenQ K [.ref p] H Q := ⟨p, xs, rfl, .inl c, h⟩
theorem lenT {p : Addr} {xs : List V} (c : SqT K H p xs) (h : Q (.int xs.length) H) : rLenQ K [.ref p] H Q := ⟨p, xs, rfl, .inr c, h⟩
theorem abs {i : Int} (h : Q (.int (if i < 0 then -i else i)) H) : rAbs [.int i] H Q := ⟨i, rfl, h⟩
theorem min2 {i j : Int} (h : Q (.int (if j < i then j else i)) H) : rMin2 [.int i, .int j] H Q := ⟨i, j, rfl, h⟩
theorem max2 {i j : Int} (h : Q (.int (if j > i then j else i)) H) : rMax2 [.int i, .int j] H Q := ⟨i, j, rfl, h⟩
theorem int1 {i : Int} (h : Q (.int i) H) : rInt1 [.int i] H Q := .inl ⟨i, rfl, h⟩
theorem ixL {p : Addr} {xs : List V} {i : Int} (c : SqL K H p xs) (a : atI xs i = some v) (h : Q v H) : rIxL K (.ref p) (.int i) H Q := ⟨p, xs, i, v, rfl, rfl, c, a, h⟩
theorem atI_map {α : Type} {f : α → V} {xs : List α} {d : α} {i : Int} (h0 : 0 ≤ i) (h1 : i < xs.length) : atI (xs.map f) i = some (f (xs.getD i.toNat d)) := by
  have e : i = ((i.toNat : Nat) : Int) := by omega
  have h2 : i.toNat < xs.length := by omega
  rw [e]
  refine atI_nat ?_
  rw [List.getElem?_map, Int.toNat_natCast, List.getElem?_eq_getElem h2, List.getD_eq_getElem?_getD, List.getElem?_eq_getElem h2]
  rfl
theorem ixLI {p : Addr} {xs : List Int} {i : Int} (c : SqL K H p (xs.map V.int)) (h0 : 0 ≤ i) (h1 : i < xs.length) (h : Q (.int (xs.getD i.toNat 0)) H) : rIxL K (.ref p) (.int i) H Q := ⟨p, _, i, _, rfl, rfl, c, atI_map h0 h1, h⟩
theorem lenLm {α : Type} {f : α → V} {p : Addr} {xs : List α} (c : SqL K H p (xs.map f)) (h : Q (.int xs.length) H) : rLenQ K [.ref p] H Q := ⟨p, _, rfl, .inl c, by rw [List.length_map]; exact h⟩
theorem lenTm {α : Type} {f : α → V} {p : Addr} {xs : List α} (c : SqT K H p (xs.map f)) (h : Q (.int xs.length) H) : rLenQ K [.ref p] H Q := ⟨p, _, rfl, .inr c, by rw [List.length_map]; exact h⟩
theorem ixT {p : Addr} {xs : List V} {i : Int} (c : SqT K H p xs) (a : atI xs i = some v) (h : Q v H) : rIxT K (.ref p) (.int i) H Q := ⟨p, xs, i, v, rfl, rfl, c, a, h⟩
theorem ixS {z : Str} {i : Int} {c : Nat} (l : z.length ≤ sizeLine) (a : atI z.cps.toList i = some c) (h : Q (.str ⟨#[c]⟩) H) : rIxS (.str z) (.int i) H Q := ⟨z, i, c, rfl, rfl, l, a, h⟩
theorem bm {T : String} {r : V → List V → Hp → VK → Prop} {t : TA} (h : ta σ H fun x H1 => tyV K T x H1 ∧ t σ H1 fun xs H2 => r x xs H2 Q) : tBM K T r ta t σ H Q := h
theorem bm0 {T : String} {r : V → List V → Hp → VK → Prop} (h : ta σ H fun x H1 => tyV K T x H1 ∧ r x [] H1 Q) : tBM0 K T r ta σ H Q := h
theorem tyL {p : Addr} {xs : List V} {A : Prop} (e : H p = some (.lst xs)) (h : A) : tyV K "list" (.ref p) H ∧ A := ⟨.inl ⟨rfl, _, .inl (.inl e)⟩, h⟩
theorem app {p : Addr} {xs : List V} (e : H p = some (.lst xs)) (c : xs.length < sizeLine) (h : Q .non (upd H p (.lst (xs ++ [y])))) : rAppend (.ref p) [y] H Q := ⟨p, xs, y, rfl, rfl, e, c, h⟩
theorem appI {p : Addr} {xs : List Int} {z : Int} (e : H p = some (.lst (xs.map V.int))) (c : xs.length < 16777216) (h : Q .non (upd H p (.lst ((xs ++ [z]).map V.int)))) : rAppend (.ref p) [.int z] H Q := ⟨p, _, _, rfl, rfl, e, by rw [List.length_map, sizeLine_eq]; exact c, by rw [List.map_append] at h; exact h⟩
theorem appS {p : Addr} {xs : List Str} {z : Str} (e : H p = some (.lst (xs.map V.str))) (c : xs.length < 16777216) (h : Q .non (upd H p (.lst ((xs ++ [z]).map V.str)))) : rAppend (.ref p) [.str z] H Q := ⟨p, _, _, rfl, rfl, e, by rw [List.length_map, sizeLine_eq]; exact c, by rw [List.map_append] at h; exact h⟩
theorem appR {p : Addr} {xs : List Addr} {z : Addr} (e : H p = some (.lst (xs.map V.ref))) (c : xs.length < 16777216) (h : Q .non (upd H p (.lst ((xs ++ [z]).map V.ref)))) : rAppend (.ref p) [.ref z] H Q := ⟨p, _, _, rfl, rfl, e, by rw [List.length_map, sizeLine_eq]; exact c, by rw [List.map_append] at h; exact h⟩
theorem for_ {wi : TI} {g : TG} (h : wi σ H fun J H1 => ∃ W : Nat → Nat → L2.St → Hp → Prop, (∃ m, W 0 m σ H1) ∧ ∀ i m σ H, W i m σ H →
  (J.stop i H ∧ D.nx σ H) ∨ (J.go i H ∧ ∃ N : L2.St → Hp → Prop, (∀ σ' H', N σ' H' → ∃ m', m' < m ∧ W (i + 1) m' σ' H') ∧ ∀ x H', J.yld i H x H' → g x σ H' fun σ2 H2 => t { D with nx := N, ct := N, bk := D.nx } σ2 H2)) : tFor wi g t D σ H := h
theorem rng1 {tas : TA} {R : It → Hp → Prop} (h : tas σ H fun vs H1 => ∃ j : Int, vs = [.int j] ∧ -(2 ^ 62) ≤ j ∧ j < 2 ^ 62 ∧ R (Itr 0 j.toNat) H1) : iRng1 tas σ H R := h
theorem rng2 {tas : TA} {R : It → Hp → Prop} (h : tas σ H fun vs H1 => ∃ i j : Int, vs = [.int i, .int j] ∧ (-(2 ^ 62) ≤ i ∧ i < 2 ^ 62 ∧ -(2 ^ 62) ≤ j ∧ j < 2 ^ 62) ∧ R (Itr i (j - i).toNat) H1) : iRng2 tas σ H R := h
theorem ilst {R : It → Hp → Prop} (h : te σ H fun x H1 => ∃ a, x = .ref a ∧ (∃ xs, SqL K H1 a xs) ∧ R (Itl K a) H1) : iList K te σ H R := h
theorem itup {R : It → Hp → Prop} (h : te σ H fun x H1 => ∃ a, x = .ref a ∧ (∃ xs, SqT K H1 a xs) ∧ R (Itt K a) H1) : iTup K te σ H R := h
theorem lc {wi : TI} {g : TG} {tt : TT} {vs : List Nat} (h : wi σ H fun J H1 => ∀ D, H1 D = none → ∃ W : Nat → Nat → Hp → Prop, (∃ m, W 0 m (upd H1 D (.lst []))) ∧ ∀ i m H, W i m H →
  (J.stop i H ∧ Q (.ref D) H) ∨ (J.go i H ∧ ∃ Nx : Hp → Prop, (∀ H', Nx H' → ∃ m', m' < m ∧ W (i + 1) m' H') ∧ ∀ x H', J.yld i H x H' → g x (wipe σ vs) H' fun σ2 H2 => wipe σ2 vs = wipe σ vs ∧ tt σ2 H2 fun b H3 =>
    if b = true then te σ2 H3 fun y H4 => ∃ acc, H4 D = some (.lst acc) ∧ acc.length < sizeLine ∧ Nx (upd H4 D (.lst (acc ++ [y]))) else Nx H3)) : tLc wi g tt te vs σ H Q := h
theorem yes {Q : Bool → Hp → Prop} (h : Q true H) : tYes σ H Q := h
/-- a new object: the heap behind it by what is known of it -/
structure Ext1 (H H1 : Hp) (p : Addr) (o : HO) : Prop where
  fresh : H p = none
  same : Same H H1
  at_ : H1 p = some o
  off : ∀ b, b ≠ p → H1 b = H b
theorem new {o : HO} {R : Addr → Hp → Prop} (h : ∀ p H1, Ext1 H H1 p o → R p H1) : ∀ p, H p = none → R p (upd H p o) := fun p np =>
  h p _ ⟨np, fun b u e => by rw [upd_ne (ne_of_none e np)]; exact e, upd_same, fun b hb => upd_ne hb⟩
theorem ext1 {p : Addr} {o : HO} (np : H p = none) : Ext1 H (upd H p o) p o := ⟨np, fun b u e => by rw [upd_ne (ne_of_none e np)]; exact e, upd_same, fun b hb => upd_ne hb⟩
theorem newL {xs : List V} (c : xs.length ≤ 16777216) (h : ∀ p H1, Ext1 H H1 p (.lst xs) → Q (.ref p) H1) : NewL xs H Q := ⟨by rw [sizeLine_eq]; exact c, fun p np => h p _ (ext1 np)⟩
theorem newT {xs : List V} (c : xs.length ≤ 16777216) (h : ∀ p H1, Ext1 H H1 p (.tup xs) → Q (.ref p) H1) : NewT xs H Q := ⟨by rw [sizeLine_eq]; exact c, fun p np => h p _ (ext1 np)⟩
theorem slL1 {a : Addr} {xs : List V} {lo hi : Option Int} (e : SqL K H a xs) (h : ∀ p H1, Ext1 H H1 p (.lst (cutV xs lo hi)) → Q (.ref p) H1) : rSlL K (.ref a) lo hi H Q := ⟨a, xs, rfl, e, fun p np => h p _ (ext1 np)⟩
theorem cat1 {a b : Addr} {xs ys : List V} (e1 : H a = some (.lst xs)) (e2 : H b = some (.lst ys)) (c : xs.length + ys.length ≤ 16777216) (h : ∀ p H1, Ext1 H H1 p (.lst (xs ++ ys)) → Q (.ref p) H1) : rCat (.ref a) (.ref b) H Q :=
  ⟨a, b, xs, ys, rfl, rfl, e1, e2, by rw [sizeLine_eq]; exact c, fun p np => h p _ (ext1 np)⟩
/-- a new list or tuple is displayed -/
theorem newD {n : Nat} {o : HO} {R : Addr → Hp → Prop} (c : n ≤ sizeLine) (h : ∀ p H1, Ext1 H H1 p o → R p H1) : n ≤ sizeLine ∧ ∀ p, H p = none → R p (upd H p o) := ⟨c, new h⟩
/-- an object that H0 does not know is written -/
theorem Same.put {H0 H1 : Hp} {p : Addr} {o : HO} (s : Same H0 H1) (n : H0 p = none) : Same H0 (upd H1 p o) := fun b u e => by rw [upd_ne (ne_of_none e n)]; exact s b u e
theorem made_same {H H' : Hp} {x dx C : Addr} {fs : List (Str × V)} (nx : H x = none) (ndx : H dx = none) (off : ∀ b, b ≠ x → H' b = (upd (upd H dx (.own x)) x (.ins C dx fs)) b) : Same H H' := fun b o e => by
  rw [off b (ne_of_none e nx), upd_ne (ne_of_none e nx), upd_ne (ne_of_none e ndx)]
  exact e
theorem and2 {p1 p2 : Prop} [Decidable p1] [Decidable p2] {tb : TE} (hb : p1 → ∀ Q' : VK, Q' (.bl (decide p2)) H → tb σ H Q') (h : Q (.bl (decide (p1 ∧ p2))) H) : if decide p1 = true then tb σ H Q else Q (.bl false) H := by
  by_cases h1 : p1
  · rw [decide_eq_true h1]
    refine hb h1 _ ?_
    rw [show decide (p1 ∧ p2) = decide p2 from decide_eq_decide.mpr ⟨fun h => h.2, fun h => ⟨h1, h⟩⟩] at h
    exact h
  · rw [decide_eq_false h1]
    rw [show decide (p1 ∧ p2) = false from decide_eq_false fun z => h1 z.1] at h
    exact h
theorem and3 {p1 p2 p3 : Prop} [Decidable p1] [Decidable p2] [Decidable p3] {tb tc : TE} (hb : p1 → ∀ Q' : VK, Q' (.bl (decide p2)) H → tb σ H Q') (hc : p1 → p2 → ∀ Q' : VK, Q' (.bl (decide p3)) H → tc σ H Q')
    (h : Q (.bl (decide (p1 ∧ p2 ∧ p3))) H) : if decide p1 = true then tAndV tb tc σ H Q else Q (.bl false) H :=
  and2 (p2 := p2 ∧ p3) (fun h1 Q' q => hb h1 _ ⟨_, rfl, and2 (hc h1) q⟩) h
theorem ok2 : (2 : Int) ^ 62 = 4611686018427387904 := by decide
theorem iteD {p : Prop} [Decidable p] {A B : Prop} (h1 : p → A) (h2 : ¬ p → B) : if decide p = true then A else B := by
  by_cases h : p
  · rw [decide_eq_true h]; exact h1 h
  · rw [decide_eq_false h]; exact h2 h
theorem iteDn {p : Prop} [Decidable p] {A B : Prop} (h1 : ¬ p → A) (h2 : p → B) : if (!decide p) = true then A else B := by
  by_cases h : p
  · rw [decide_eq_true h]; exact h2 h
  · rw [decide_eq_false h]; exact h1 h
theorem iteB {b : Bool} {A B : Prop} (h1 : b = true → A) (h2 : b = false → B) : if b = true then A else B := by
  cases b
  · exact h2 rfl
  · exact h1 rfl
theorem iteNB {b : Bool} {A B : Prop} (h1 : b = false → A) (h2 : b = true → B) : if (!b) = true then A else B := by
  cases b
  · exact h1 rfl
  · exact h2 rfl
theorem cmulR {i j : Int} (h1 : -18446744073709551616 < j) (h2 : j < 18446744073709551616) : CMul i j := .inr ⟨by simpa using h1, by simpa using h2⟩
theorem cmulL {i j : Int} (h1 : -18446744073709551616 < i) (h2 : i < 18446744073709551616) : CMul i j := .inl ⟨by simpa using h1, by simpa using h2⟩
theorem cdiv {i j : Int} (h1 : 0 < j) (h2 : j < 1073741824) : CDiv i j := ⟨h1, h2⟩
theorem cpow {i j : Int} (h1 : 0 ≤ j) (h2 : j ≤ 1000000) (h3 : i.natAbs < 18446744073709551616) : CPow i j := ⟨h1, h2, by simpa using h3⟩
theorem line {n : Nat} (h : n ≤ 16777216) : n ≤ sizeLine := by rw [sizeLine_eq]; exact h
theorem lineL {n : Nat} (h : n < 16777216) : n < sizeLine := by rw [sizeLine_eq]; exact h
theorem itT {A B : Prop} (h : A) : if true = true then A else B := h
theorem itNtt {A B : Prop} (h : B) : if (!(true == true)) = true then A else B := h
theorem itNff {A B : Prop} (h : B) : if (!(false == false)) = true then A else B := h
theorem ittt {A B : Prop} (h : A) : if (true == true) = true then A else B := h
theorem itff {A B : Prop} (h : A) : if (false == false) = true then A else B := h
theorem itNF {A B : Prop} (h : A) : if (!false) = true then A else B := h
theorem itNT {A B : Prop} (h : B) : if (!true) = true then A else B := h
theorem itF {A B : Prop} (h : B) : if false = true then A else B := h
def rIsN : R2 := fun x y H Q => y = .non ∧ Q (.bl (decide (x = .non))) H
def rNotN : R2 := fun x y H Q => y = .non ∧ Q (.bl (!decide (x = .non))) H
theorem isNn (h : Q (.bl true) H) : rIsN .non .non H Q := ⟨rfl, h⟩
theorem isNi {i : Int} (h : Q (.bl false) H) : rIsN (.int i) .non H Q := ⟨rfl, h⟩
theorem isNs {i : Str} (h : Q (.bl false) H) : rIsN (.str i) .non H Q := ⟨rfl, h⟩
theorem isNb {i : Bool} (h : Q (.bl false) H) : rIsN (.bl i) .non H Q := ⟨rfl, h⟩
theorem isNr {i : Addr} (h : Q (.bl false) H) : rIsN (.ref i) .non H Q := ⟨rfl, h⟩
theorem notNn (h : Q (.bl false) H) : rNotN .non .non H Q := ⟨rfl, h⟩
theorem notNi {i : Int} (h : Q (.bl true) H) : rNotN (.int i) .non H Q := ⟨rfl, h⟩
theorem notNs {i : Str} (h : Q (.bl true) H) : rNotN (.str i) .non H Q := ⟨rfl, h⟩
theorem notNb {i : Bool} (h : Q (.bl true) H) : rNotN (.bl i) .non H Q := ⟨rfl, h⟩
theorem notNr {i : Addr} (h : Q (.bl true) H) : rNotN (.ref i) .non H Q := ⟨rfl, h⟩
variable {X : Cx}
theorem op_isNG : OpR X (compareOp .Is) rIsN := op_isN
theorem op_notNG : OpR X (compareOp .IsNot) rNotN := op_notN
theorem cr_lenS : CallR X (.builtin "len") rLenS := call_len_str
theorem cr_lenQ : CallR X (.builtin "len") (rLenQ X.K) := call_len_seq
theorem cr_abs : CallR X (.builtin "abs") rAbs := call_abs
theorem cr_min2 (hc : X.calm = true) : CallR X (.builtin "min") rMin2 := call_min2 hc
theorem cr_max2 (hc : X.calm = true) : CallR X (.builtin "max") rMax2 := call_max2 hc
theorem cr_int1 : CallR X (.type "int") rInt1 := call_int1
theorem op_addS : OpR X (binaryOp .Add) rAddS := op_add_str
end
end Gx
/-! ### further rules of mine -/
namespace Gx
open PySem PySem.Spec PyProof.Rows L2
section
variable {X : Cx} {C g f : Addr} {bmB : List Value} {B newId initId : String} {CX : CXT} {k n : Nat} {fd : FuncData} {ps : List Str} {sp : Sp} {o fe e : Expr} {es : List Expr} {ta tf : TE} {t : TA} {m : Str} {p pos apos : Pos}
/-- X() of an own exception class -/
theorem pmk_own0 {x : Str} (F : ExcBaseFacts B newId initId bmB) (q : PySem.W.excIn X.K C bmB newId = true) (gC : X.mg x = some (.ref C)) (kC : PySem.W.keepIn X.K (.ref C) = true) (r : Raises X (.ref C)) (hg : Gl X x)
    (hdb : (x == ("__debug__" : Str)) = false := by decide) : PMk X (.Call (.Name x p) [] [] pos) (fun _ H Q => Q (.ref C) none H) := by
  intro pins s σ H Q I h
  refine wpAny_Call_Name_kw (ld_glob I hg gC ?_ hdb)
  refine PySem.W.callWith_K0 (first := []) I.kIn kC ?_
  obtain ⟨bm, N, nm, qn, bs, hdct, sn, sub, ab, col, dd, k0, k1, k2, k3, k5, mN, hC, hN, hni, T⟩ := exc_obj I.kIn q
  refine wpAny_call_exc_subT F T hC hN hni (fun h' e hm => ?_) (by show 0 ≤ sizeLine; rw [sizeLine_eq]; omega)
  exact mk_of I hm r h (I.hok.gone hm.new)
/-- o.m(e, ..) where what is raised is wished for at the slots -/
def tMethS (C : Addr) (m : Str) (sp : Sp) (E : L2.St → XK) (ta : TE) (t : TA) : TE := fun σ H Q => ta σ H fun x H1 => ∃ a dx fs, x = .ref a ∧ H1 a = some (.ins C dx fs) ∧ fs.lookup m = none ∧
  t σ H1 fun vs H2 => sp (x :: vs) H2 Q (E σ)
theorem pe_methS {E : L2.St → XK} {pl : Sem Bool} (he : PE X o ta) (c : Cls X.K C) (hm : Meth X.K C m f) (F : FnOk X.prog X.w X.K X.mg X.base CX k f fd ps sp) (hr : Room k X.A) (hb : Binds X.K fd ps []) (hx : ∀ σ, PassesAt CX X σ (E σ)) (ha : PA X (e :: es) t)
    (hst : starEach (e :: es) X.env = (false, eval e X.env) :: starEach es X.env := by rfl) (hpl : (backTo pos (starEach es X.env)).any (·.1) = false := by rfl)
    (ht : eval (.Call (.Attribute o m apos) (e :: es) [] pos) X.env = (do
      let ov ← eval o X.env
      standAt apos.atName
      let (f, first) ← holding [ov] (getMethod ov m pl)
      callWith pos f first (backTo pos (starEach (e :: es) X.env)) (backToKw pos (keywordEach [] X.env))) := by rfl) :
    PE X (.Call (.Attribute o m apos) (e :: es) [] pos) (tMethS C m sp E ta t) := by
  refine ⟨fun pins s σ H Q I h => ?_⟩
  refine PySem.W.methodCall_KW (pl := pl) (thn (he.run pins s σ H _ I h) fun u s1 ⟨x, H1, I1, rx, a, dx, fs, ex, ea, l, q⟩ => ?_) ht
  subst ex
  obtain rfl : u = Value.ref a := rx
  refine getmeth_ok I1 ea c hm l ?_
  refine PySem.W.callWith_K (first := [.ref a]) (h₀ := X.base) I.ok.mod.kin hm.kp (thn (ha.run pos pins s1 σ H1 _ I1 q) fun us s2 ⟨vs, H2, I2, r, q2⟩ => ⟨I2.kIn, ?_⟩) hst hpl
  exact run_fnS (us := .ref a :: us) (vs := .ref a :: vs) F hr hb (hx σ) I2 (.cons rfl r) q2
/-- the instance's call: its node's code -/
theorem code_fnS {E : L2.St → XK} {pins : List (Addr × Obj)} {σ : L2.St} {H : Hp} {s : Shared} {Q : VK} {us : List Value} {vs : List V} (F : FnOk X.prog X.w X.K X.mg X.base CX k f fd ps sp) (hr : Room k X.A) (hb : Binds X.K fd ps []) (hx : PassesAt CX X σ (E σ))
    (I : Inv X pins σ H s) (r : Vals vs us) (h : sp vs H Q (E σ)) : codeAny (model X.prog X.w) X.A (.call (.ref f) ⟨us, []⟩) (wants (EP X pins σ Q) X.xe) s := by
  have hl : us.length = ps.length := by rw [← r.length]; exact F.len _ _ _ _ h
  have b := hb s us I.kIn (by rw [List.append_nil]; exact hl)
  rw [List.append_nil] at b
  refine codeAny_mono (F.run X.A X.stack s H ⟨us, []⟩ us vs Q (E σ) hr I.env0 b r h) fun r s' hq => ?_
  cases r with
  | error e => exact hx pins H s e s' I hq
  | ok fl =>
    cases fl with
    | ret u => exact I.after hq
    | next => exact False.elim hq
    | brk => exact False.elim hq
    | cont => exact False.elim hq
/-- o(e, ..), o an instance of C with __call__ -/
def tCallOS (C : Addr) (sp : Sp) (E : L2.St → XK) (tf : TE) (t : TA) : TE := fun σ H Q => tf σ H fun y H1 => ∃ a, y = V.ref a ∧ t σ H1 fun vs H2 => (∃ dx fs, H2 a = some (.ins C dx fs)) ∧ sp (V.ref a :: vs) H2 Q (E σ)
theorem pe_callOS {E : L2.St → XK} (hf : PE X fe tf) (c : StX.CallO X.K C g) (F : FnOk X.prog X.w X.K X.mg X.base CX k g fd ps sp) (hr : Room k X.A) (hb : Binds X.K fd ps []) (hx : ∀ σ, PassesAt CX X σ (E σ)) (ha : PA X (e :: es) t)
    (ht : eval (.Call fe (e :: es) [] pos) X.env = (do callWith pos (← eval fe X.env) [] (backTo pos (starEach (e :: es) X.env)) (backToKw pos (keywordEach [] X.env))) := by rfl)
    (he : starEach (e :: es) X.env = (false, eval e X.env) :: starEach es X.env := by rfl) (hpl : (backTo pos (starEach es X.env)).any (·.1) = false := by rfl) : PE X (.Call fe (e :: es) [] pos) (tCallOS C sp E tf t) := by
  refine ⟨fun pins s σ H Q I h => ?_⟩
  refine Call_ (thn (hf.run pins s σ H _ I h) fun u s1 ⟨y, H1, I1, ry, a, ey, q⟩ => ?_) ht
  subst ey
  obtain rfl : u = Value.ref a := ry
  refine StX.callO_with (thn (ha.run pos pins s1 σ H1 _ I1 q) fun us s2 ⟨vs, H2, I2, r, ⟨dx, fs, hi⟩, q2⟩ => ?_) he hpl
  obtain ⟨ox, od, J, hd⟩ := StX.insC_at (X := X) I2 (.inr ⟨dx, fs, hi⟩)
  refine ⟨⟨C, ox, od, J, hd⟩, wpAny_call (PySem.W.kco_code I2.kIn J hd c.at_ c.fn c.fi ?_)⟩
  exact code_fnS (us := .ref a :: us) (vs := .ref a :: vs) F hr hb (hx σ) I2 (.cons rfl r) q2
/-- x == y, x an instance of C with its own __eq__ -/
def rEqO (C : Addr) (sp : Sp) (K : PySem.W.Frag) : R2 := fun x y H Q => ∃ a dx fs tb, x = .ref a ∧ H a = some (.ins C dx fs) ∧ TyX K H y tb ∧ PySem.W.notFirst K C tb = true ∧ sp [x, y] H (fun v H' => (∃ b, v = .bl b) ∧ Q v H') E0
theorem looks_ty {K : PySem.W.Frag} {M : Model} {pins : List (Addr × Obj)} {σ : L2.St} {H : Hp} {s : Shared} {x : V} {u t : Value} (I : Inv X pins σ H s) (rx : RelV x u) (ty : TyX X.K H x t) : PySem.W.Looks M s.heap (typeOf u) t := by
  obtain ⟨P, Z, p, _⟩ := kit_of I rx ty
  exact Z.ty _ _ I.kIn p
theorem op_eqO (c : PySem.W.findIn X.K (.ref C) "__eq__" = some (some (.ref f))) (hf : PySem.W.isFn X.K (.ref f) = true) (F : FnOk X.prog X.w X.K X.mg X.base CX0 k f fd ps sp) (hr : Room k X.A) (hb : Binds X.K fd ps []) : OpR X (compareOp .Eq) (rEqO C sp X.K) := by
  intro pins s σ H x y v u Q I rx ry hq
  obtain ⟨a, dx, fs, tb, rfl, ha, ty, nf, q⟩ := hq
  obtain rfl : v = Value.ref a := rx
  show wpAny (model X.prog X.w) X.A (richCompare .Eq (.ref a) u) (EP X pins σ Q) X.xe s
  obtain ⟨mA, J, _⟩ := ins_get I.hok ha
  obtain ⟨od, J, _⟩ := J.look
  obtain ⟨m, hF⟩ := I.fr
  refine PySem.W.cmp_K (op := .Eq) (tb := tb) hr.units0 hF I.ok.mod.kin J (looks_ty (K := X.K) I ry ty) nf c hf ?_
  refine wpAny_mono (run_fn (us := [.ref a, u]) (vs := [.ref a, y]) (ds := []) (dvs := []) F hr hb .nil pass0 I (.cons rfl (.cons ry .nil)) q) (fun z s' hz => ?_) fun _ _ h => h
  obtain ⟨v', H', I', rv, ⟨b, rfl⟩, q'⟩ := hz
  cases rv
  exact ⟨V.bl b, H', I', rfl, q'⟩
/-- isinstance(e, T), e the exception that the suite holds -/
def rIsE' (K : PySem.W.Frag) (D a : Addr) (cls : Value) (d : Option Addr) : List V → Hp → VK → Prop := fun xs H Q => cls = .ref D ∧ d = none ∧ rIsE K D a xs H Q
theorem cr_isE {a D : Addr} {cls : Value} {d : Option Addr} {oe : Obj} {pn : List (Addr × Obj)} (C : ExcC X.K D) (hz : Zc cls d oe) (hf : ∃ vs, oe.data = .fields vs) : CallR (X.suite a ((a, oe) :: pn)) (.builtin "isinstance") (rIsE' X.K D a cls d) := by
  intro pins s σ H xs us Q I r h
  obtain ⟨rfl, rfl, h⟩ := h
  exact call_isE C hz hf pins s σ H xs us Q I r h
theorem isi {K : PySem.W.Frag} {H : Hp} {Q : VK} {x c : V} {t u : Value} {b : Bool} (hc : ClsV c u) (ht : TyX K H x t) (e : PySem.W.kitOne K t u = some b) (h : Q (.bl b) H) : rIsi K [x, c] H Q := ⟨x, c, t, u, b, rfl, hc, ht, e, h⟩
theorem tyX_L {K : PySem.W.Frag} {H : Hp} {a : Addr} {xs : List V} (h : SqL K H a xs) : TyX K H (.ref a) (.type "list") := by
  rcases h with (h | ⟨o, h⟩) | ⟨o, its, n, h, hc, _⟩
  · exact .base (.lst h)
  · exact .base (.frz h)
  · exact .kList h hc
theorem tyX_T {K : PySem.W.Frag} {H : Hp} {a : Addr} {xs : List V} (h : SqT K H a xs) : TyX K H (.ref a) (.type "tuple") := by
  rcases h with (h | ⟨o, h⟩) | ⟨o, its, n, h, hc, _⟩
  · exact .base (.tup h)
  · exact .fTuple h
  · exact .kTuple h hc
theorem isi_ni {K : PySem.W.Frag} {H : Hp} {Q : VK} (h : Q (.bl false) H) : rIsi K [.non, .ty "int"] H Q := isi (.ty _) (.base .non) (kit_ty (by decide +kernel)) h
theorem isi_nb {K : PySem.W.Frag} {H : Hp} {Q : VK} (h : Q (.bl false) H) : rIsi K [.non, .ty "bool"] H Q := isi (.ty _) (.base .non) (kit_ty (by decide +kernel)) h
theorem isi_ns {K : PySem.W.Frag} {H : Hp} {Q : VK} (h : Q (.bl false) H) : rIsi K [.non, .ty "str"] H Q := isi (.ty _) (.base .non) (kit_ty (by decide +kernel)) h
theorem isi_nl {K : PySem.W.Frag} {H : Hp} {Q : VK} (h : Q (.bl false) H) : rIsi K [.non, .ty "list"] H Q := isi (.ty _) (.base .non) (kit_ty (by decide +kernel)) h
theorem isi_nt {K : PySem.W.Frag} {H : Hp} {Q : VK} (h : Q (.bl false) H) : rIsi K [.non, .ty "tuple"] H Q := isi (.ty _) (.base .non) (kit_ty (by decide +kernel)) h
theorem isi_ii {K : PySem.W.Frag} {H : Hp} {Q : VK} {i : Int} (h : Q (.bl true) H) : rIsi K [.int i, .ty "int"] H Q := isi (.ty _) (.base (.int i)) (kit_ty (by decide +kernel)) h
theorem isi_ib {K : PySem.W.Frag} {H : Hp} {Q : VK} {i : Int} (h : Q (.bl false) H) : rIsi K [.int i, .ty "bool"] H Q := isi (.ty _) (.base (.int i)) (kit_ty (by decide +kernel)) h
theorem isi_is {K : PySem.W.Frag} {H : Hp} {Q : VK} {i : Int} (h : Q (.bl false) H) : rIsi K [.int i, .ty "str"] H Q := isi (.ty _) (.base (.int i)) (kit_ty (by decide +kernel)) h
theorem isi_il {K : PySem.W.Frag} {H : Hp} {Q : VK} {i : Int} (h : Q (.bl false) H) : rIsi K [.int i, .ty "list"] H Q := isi (.ty _) (.base (.int i)) (kit_ty (by decide +kernel)) h
theorem isi_it {K : PySem.W.Frag} {H : Hp} {Q : VK} {i : Int} (h : Q (.bl false) H) : rIsi K [.int i, .ty "tuple"] H Q := isi (.ty _) (.base (.int i)) (kit_ty (by decide +kernel)) h
theorem isi_si {K : PySem.W.Frag} {H : Hp} {Q : VK} {z : Str} (h : Q (.bl false) H) : rIsi K [.str z, .ty "int"] H Q := isi (.ty _) (.base (.str z)) (kit_ty (by decide +kernel)) h
theorem isi_sb {K : PySem.W.Frag} {H : Hp} {Q : VK} {z : Str} (h : Q (.bl false) H) : rIsi K [.str z, .ty "bool"] H Q := isi (.ty _) (.base (.str z)) (kit_ty (by decide +kernel)) h
theorem isi_ss {K : PySem.W.Frag} {H : Hp} {Q : VK} {z : Str} (h : Q (.bl true) H) : rIsi K [.str z, .ty "str"] H Q := isi (.ty _) (.base (.str z)) (kit_ty (by decide +kernel)) h
theorem isi_sl {K : PySem.W.Frag} {H : Hp} {Q : VK} {z : Str} (h : Q (.bl false) H) : rIsi K [.str z, .ty "list"] H Q := isi (.ty _) (.base (.str z)) (kit_ty (by decide +kernel)) h
theorem isi_st {K : PySem.W.Frag} {H : Hp} {Q : VK} {z : Str} (h : Q (.bl false) H) : rIsi K [.str z, .ty "tuple"] H Q := isi (.ty _) (.base (.str z)) (kit_ty (by decide +kernel)) h
theorem isi_bi {K : PySem.W.Frag} {H : Hp} {Q : VK} {z : Bool} (h : Q (.bl true) H) : rIsi K [.bl z, .ty "int"] H Q := isi (.ty _) (.base (.bl z)) (kit_ty (by decide +kernel)) h
theorem isi_bb {K : PySem.W.Frag} {H : Hp} {Q : VK} {z : Bool} (h : Q (.bl true) H) : rIsi K [.bl z, .ty "bool"] H Q := isi (.ty _) (.base (.bl z)) (kit_ty (by decide +kernel)) h
theorem isi_bs {K : PySem.W.Frag} {H : Hp} {Q : VK} {z : Bool} (h : Q (.bl false) H) : rIsi K [.bl z, .ty "str"] H Q := isi (.ty _) (.base (.bl z)) (kit_ty (by decide +kernel)) h
theorem isi_bl {K : PySem.W.Frag} {H : Hp} {Q : VK} {z : Bool} (h : Q (.bl false) H) : rIsi K [.bl z, .ty "list"] H Q := isi (.ty _) (.base (.bl z)) (kit_ty (by decide +kernel)) h
theorem isi_bt {K : PySem.W.Frag} {H : Hp} {Q : VK} {z : Bool} (h : Q (.bl false) H) : rIsi K [.bl z, .ty "tuple"] H Q := isi (.ty _) (.base (.bl z)) (kit_ty (by decide +kernel)) h
theorem isi_Li {K : PySem.W.Frag} {H : Hp} {Q : VK} {a : Addr} {xs : List V} (hs : SqL K H a xs) (h : Q (.bl false) H) : rIsi K [.ref a, .ty "int"] H Q := isi (.ty _) (tyX_L hs) (kit_ty (by decide +kernel)) h
theorem isi_Lb {K : PySem.W.Frag} {H : Hp} {Q : VK} {a : Addr} {xs : List V} (hs : SqL K H a xs) (h : Q (.bl false) H) : rIsi K [.ref a, .ty "bool"] H Q := isi (.ty _) (tyX_L hs) (kit_ty (by decide +kernel)) h
theorem isi_Ls {K : PySem.W.Frag} {H : Hp} {Q : VK} {a : Addr} {xs : List V} (hs : SqL K H a xs) (h : Q (.bl false) H) : rIsi K [.ref a, .ty "str"] H Q := isi (.ty _) (tyX_L hs) (kit_ty (by decide +kernel)) h
theorem isi_Ll {K : PySem.W.Frag} {H : Hp} {Q : VK} {a : Addr} {xs : List V} (hs : SqL K H a xs) (h : Q (.bl true) H) : rIsi K [.ref a, .ty "list"] H Q := isi (.ty _) (tyX_L hs) (kit_ty (by decide +kernel)) h
theorem isi_Lt {K : PySem.W.Frag} {H : Hp} {Q : VK} {a : Addr} {xs : List V} (hs : SqL K H a xs) (h : Q (.bl false) H) : rIsi K [.ref a, .ty "tuple"] H Q := isi (.ty _) (tyX_L hs) (kit_ty (by decide +kernel)) h
theorem isi_Ti {K : PySem.W.Frag} {H : Hp} {Q : VK} {a : Addr} {xs : List V} (hs : SqT K H a xs) (h : Q (.bl false) H) : rIsi K [.ref a, .ty "int"] H Q := isi (.ty _) (tyX_T hs) (kit_ty (by decide +kernel)) h
theorem isi_Tb {K : PySem.W.Frag} {H : Hp} {Q : VK} {a : Addr} {xs : List V} (hs : SqT K H a xs) (h : Q (.bl false) H) : rIsi K [.ref a, .ty "bool"] H Q := isi (.ty _) (tyX_T hs) (kit_ty (by decide +kernel)) h
theorem isi_Ts {K : PySem.W.Frag} {H : Hp} {Q : VK} {a : Addr} {xs : List V} (hs : SqT K H a xs) (h : Q (.bl false) H) : rIsi K [.ref a, .ty "str"] H Q := isi (.ty _) (tyX_T hs) (kit_ty (by decide +kernel)) h
theorem isi_Tl {K : PySem.W.Frag} {H : Hp} {Q : VK} {a : Addr} {xs : List V} (hs : SqT K H a xs) (h : Q (.bl false) H) : rIsi K [.ref a, .ty "list"] H Q := isi (.ty _) (tyX_T hs) (kit_ty (by decide +kernel)) h
theorem isi_Tt {K : PySem.W.Frag} {H : Hp} {Q : VK} {a : Addr} {xs : List V} (hs : SqT K H a xs) (h : Q (.bl true) H) : rIsi K [.ref a, .ty "tuple"] H Q := isi (.ty _) (tyX_T hs) (kit_ty (by decide +kernel)) h
/-- fields -/
theorem sfld {K : PySem.W.Frag} {H : Hp} {D : Ends} {σ : L2.St} {ta tv : TE} {f : Str} (h : tv σ H fun y H1 => ta σ H1 fun x H2 => ∃ a C dx fs, x = .ref a ∧ H2 a = some (.ins C dx fs) ∧ Cls K C ∧ NoAttr K C f ∧ fs.length < 1000 ∧ D.nx σ (upd H2 a (.ins C dx (putF f y fs)))) : sFld K ta tv f D σ H := h
theorem meth {H : Hp} {Q : VK} {σ : L2.St} {ta : TE} {C : Addr} {m : Str} {sp : Sp} {E : XK} {t : TA} (h : ta σ H fun x H1 => ∃ a dx fs, x = .ref a ∧ H1 a = some (.ins C dx fs) ∧ fs.lookup m = none ∧ t σ H1 fun vs H2 => CallK sp [] E (x :: vs) H2 Q) : tMeth C m sp [] E ta t σ H Q := h
theorem make {H : Hp} {Q : VK} {σ : L2.St} {C : Addr} {sp : Sp} {E : XK} {t : TA} (h : t σ H fun vs H1 => ∀ x dx, H1 x = none → H1 dx = none → dx ≠ x → sp (.ref x :: vs) (upd (upd H1 dx (.own x)) x (.ins C dx [])) (fun v H2 => v = .non ∧ Q (.ref x) H2) E) : tMake C sp [] E t σ H Q := by
  unfold tMake
  have e : ∀ vs : List V, vs ++ [] = vs := fun vs => List.append_nil vs
  simp only [e]
  exact h
theorem fld {K : PySem.W.Frag} {H : Hp} {Q : VK} {σ : L2.St} {ta : TE} {f : Str} (h : ta σ H fun x H1 => ∃ a C dx fs v, x = .ref a ∧ H1 a = some (.ins C dx fs) ∧ Cls K C ∧ NoAttr K C f ∧ fs.lookup f = some v ∧ Q v H1) : tFld K ta f σ H Q := h
theorem passLS {X : Cx} : ∀ σ, PassesAt (L2.CX X.prog X.w) X σ E0 := fun σ pins H s e s' I c => passL pins σ H s e s' I c
theorem prop {H : Hp} {Q : VK} {σ : L2.St} {ta : TE} {C : Addr} {sp : Sp} {E : XK} (h : ta σ H fun x H1 => ∃ a dx fs, x = .ref a ∧ H1 a = some (.ins C dx fs) ∧ sp [.ref a] H1 Q E) : tProp C sp [] E ta σ H Q := h
theorem callO {H : Hp} {Q : VK} {σ : L2.St} {tf : TE} {t : TA} {C : Addr} {sp : Sp} {E : L2.St → XK} (h : tf σ H fun y H1 => ∃ a, y = V.ref a ∧ t σ H1 fun vs H2 => (∃ dx fs, H2 a = some (.ins C dx fs)) ∧ sp (V.ref a :: vs) H2 Q (E σ)) : tCallOS C sp E tf t σ H Q := h
theorem methS {H : Hp} {Q : VK} {σ : L2.St} {ta : TE} {C : Addr} {m : Str} {sp : Sp} {E : L2.St → XK} {t : TA} (h : ta σ H fun x H1 => ∃ a dx fs, x = .ref a ∧ H1 a = some (.ins C dx fs) ∧ fs.lookup m = none ∧ t σ H1 fun vs H2 => sp (x :: vs) H2 Q (E σ)) : tMethS C m sp E ta t σ H Q := h
theorem callS {sp : Sp} {E : L2.St → XK} {t : TA} {σ : L2.St} {H : Hp} {Q : VK} (h : t σ H fun vs H1 => sp vs H1 Q (E σ)) : tCallS sp E t σ H Q := h
end
end Gx
/-! ### texts as lists of code points -/
namespace Gx
open PySem PySem.Spec PyProof.Rows L2 TL
def mkS (l : List Nat) : Str := ⟨l.toArray⟩
theorem mkS_len (l : List Nat) : (mkS l).length = l.length := by simp [mkS, Str.length]
theorem mkS_tl (l : List Nat) : (mkS l).cps.toList = l := rfl
theorem mkS_app (a b : List Nat) : mkS a ++ mkS b = mkS (a ++ b) := by
  refine ext_tl ?_
  rw [tl_append]
  rfl
theorem mkS_inj {a b : List Nat} : mkS a = mkS b ↔ a = b := ⟨fun h => by
  have := congrArg (fun x => x.cps.toList) h
  exact this, fun h => by rw [h]⟩
theorem mkS_of (x : Str) : x = mkS x.cps.toList := rfl
theorem ofS (s : String) : Str.ofString s = mkS (s.toList.map Char.toNat) := ext_tl (tl_ofString s)
theorem sIx_int (n d : Nat) {i : Int} (h : 0 ≤ i) : HT.sIx n d (some i) = min i.toNat n := by
  have e : i = ((i.toNat : Nat) : Int) := by omega
  rw [e, HT.sIx_nat, Int.toNat_natCast]
theorem cut_A (l : List Nat) {j : Int} (h : 0 ≤ j) : cutS (mkS l) none (some j) = mkS (l.take j.toNat) := by
  show mkS (((mkS l).cps.toList.drop _).take _) = _
  rw [mkS_tl, mkS_len, HT.sIx_none, sIx_int _ _ h, List.drop_zero, Nat.sub_zero, ← List.take_eq_take_min]
theorem cut_B (l : List Nat) {i : Int} (h : 0 ≤ i) : cutS (mkS l) (some i) none = mkS (l.drop i.toNat) := by
  show mkS (((mkS l).cps.toList.drop _).take _) = _
  rw [mkS_tl, mkS_len, HT.sIx_none, sIx_int _ _ h]
  congr 1
  rw [List.take_of_length_le (by rw [List.length_drop]; omega)]
  by_cases c : i.toNat ≤ l.length
  · rw [Nat.min_eq_left c]
  · rw [Nat.min_eq_right (by omega), List.drop_length, List.drop_eq_nil_of_le (by omega)]
theorem cut_C (l : List Nat) {i j : Int} (h : 0 ≤ i) (h' : 0 ≤ j) : cutS (mkS l) (some i) (some j) = mkS ((l.take j.toNat).drop i.toNat) := by
  show mkS (((mkS l).cps.toList.drop _).take _) = _
  rw [mkS_tl, mkS_len, sIx_int _ _ h, sIx_int _ _ h']
  congr 1
  rw [List.drop_take]
  by_cases c : i.toNat ≤ l.length
  · rw [Nat.min_eq_left c]
    by_cases d : j.toNat ≤ l.length
    · rw [Nat.min_eq_left d]
    · rw [Nat.min_eq_right (by omega), List.take_of_length_le (by rw [List.length_drop]; omega), List.take_of_length_le (by rw [List.length_drop]; omega)]
  · rw [Nat.min_eq_right (a := i.toNat) (by omega), List.drop_length, List.drop_eq_nil_of_le (by omega)]
    simp
section
variable {σ : L2.St} {H : Hp} {Q : VK} {te to : TE} {K : PySem.W.Frag}
theorem conE {x y : Str} (e : x = y) (h : Q (.str y) H) : tC (.str x) σ H Q := by rw [e]; exact h
theorem sA {l : List Nat} {j : Int} (h0 : 0 ≤ j) (c : l.length ≤ 16777216) (h : Q (.str (mkS (l.take j.toNat))) H) : rSlS (.str (mkS l)) none (some j) H Q := ⟨_, rfl, by rw [mkS_len, sizeLine_eq]; exact c, by rw [cut_A l h0]; exact h⟩
theorem sB {l : List Nat} {j : Int} (h0 : 0 ≤ j) (c : l.length ≤ 16777216) (h : Q (.str (mkS (l.drop j.toNat))) H) : rSlS (.str (mkS l)) (some j) none H Q := ⟨_, rfl, by rw [mkS_len, sizeLine_eq]; exact c, by rw [cut_B l h0]; exact h⟩
theorem sC {l : List Nat} {i j : Int} (h0 : 0 ≤ i) (h1 : 0 ≤ j) (c : l.length ≤ 16777216) (h : Q (.str (mkS ((l.take j.toNat).drop i.toNat))) H) : rSlS (.str (mkS l)) (some i) (some j) H Q := ⟨_, rfl, by rw [mkS_len, sizeLine_eq]; exact c, by rw [cut_C l h0 h1]; exact h⟩
theorem addM {a b : List Nat} (c : a.length + b.length ≤ 16777216) (h : Q (.str (mkS (a ++ b))) H) : rAddS (.str (mkS a)) (.str (mkS b)) H Q := ⟨_, _, rfl, rfl, by rw [mkS_len, mkS_len, sizeLine_eq]; exact c, by rw [mkS_app]; exact h⟩
theorem lenM {l : List Nat} (c : l.length ≤ 16777216) (h : Q (.int l.length) H) : rLenS [.str (mkS l)] H Q := ⟨_, rfl, by rw [mkS_len, sizeLine_eq]; exact c, by rw [mkS_len]; exact h⟩
theorem eqM {a b : List Nat} (h : Q (.bl (decide (a = b))) H) : rEq (.str (mkS a)) (.str (mkS b)) H Q := ⟨rfl, by
  rw [show decide (V.str (mkS a) = V.str (mkS b)) = decide (a = b) from by simp [mkS_inj]]
  exact h⟩
theorem neM {a b : List Nat} (h : Q (.bl (!decide (a = b))) H) : rNe (.str (mkS a)) (.str (mkS b)) H Q := ⟨rfl, by
  rw [show decide (V.str (mkS a) = V.str (mkS b)) = decide (a = b) from by simp [mkS_inj]]
  exact h⟩
theorem ixM {l : List Nat} {i : Int} (h0 : 0 ≤ i) (h1 : i < l.length) (c : l.length ≤ 16777216) (h : Q (.str (mkS [l.getD i.toNat 0])) H) : rIxS (.str (mkS l)) (.int i) H Q := by
  have e : i = ((i.toNat : Nat) : Int) := by omega
  have h2 : i.toNat < l.length := by omega
  refine ⟨_, i, l.getD i.toNat 0, rfl, rfl, by rw [mkS_len, sizeLine_eq]; exact c, ?_, h⟩
  rw [mkS_tl, e]
  refine atI_nat ?_
  rw [Int.toNat_natCast, List.getElem?_eq_getElem h2, List.getD_eq_getElem?_getD, List.getElem?_eq_getElem h2]
  rfl
/-- sep.join(xs) -/
def rJoin (K : PySem.W.Frag) : V → List V → Hp → VK → Prop := fun x xs H Q => ∃ a p, ∃ ys : List Str, x = .str a ∧ xs = [.ref p] ∧ (SqL K H p (ys.map V.str) ∨ SqT K H p (ys.map V.str)) ∧
      (ys.map (·.length)).sum + ys.length * a.length ≤ 16777216 ∧ Q (.str (Txt.join a ys)) H
theorem m1 {r : V → List V → Hp → VK → Prop} (h : to σ H fun x H1 => (∃ a, x = .str a) ∧ te σ H1 fun y H2 => r x [y] H2 Q) : tM1 r to te σ H Q := h
theorem isS {z : Str} {A : Prop} (h : A) : (∃ a, V.str z = .str a) ∧ A := ⟨⟨z, rfl⟩, h⟩
theorem joinL_nil : ∀ ls : List (List Nat), joinL [] ls = ls.flatten
  | [] => rfl
  | [p] => by simp [joinL]
  | p :: q :: r => by
    show p ++ ([] ++ joinL [] (q :: r)) = _
    rw [joinL_nil (q :: r)]
    rfl
theorem sum_len : ∀ ls : List (List Nat), ((ls.map mkS).map (·.length)).sum = ls.flatten.length
  | [] => rfl
  | p :: r => by
    rw [List.map_cons, List.map_cons, List.sum_cons, sum_len r, mkS_len, List.flatten_cons, List.length_append]
/-- ''.join(xs) -/
theorem join0 {ls : List (List Nat)} {p : Addr} (e : SqL K H p ((ls.map mkS).map V.str)) (c : ls.flatten.length ≤ 16777216) (h : Q (.str (mkS ls.flatten)) H) : rJoin K (.str (mkS [])) [.ref p] H Q := by
  refine ⟨mkS [], p, ls.map mkS, rfl, rfl, .inl e, ?_, ?_⟩
  · rw [sum_len, mkS_len]
    simpa using c
  · rw [show Txt.join (mkS []) (ls.map mkS) = mkS ls.flatten from ?_]
    · exact h
    · refine ext_tl ?_
      rw [join_eq, tl_join, List.map_map]
      show joinL [] (ls.map (fun l => l)) = ls.flatten
      rw [List.map_id', joinL_nil]
end
section
variable {X : Cx} {o e : Expr} {to te : TE} {pos apos : Pos}
theorem pe_joinG (ho : PE X o to) (he : PE X e te) (hs : starEach [e] X.env = [(false, eval e X.env)] := by rfl) (hbase : attributeBase o "join" X.env (eval o X.env) = eval o X.env := by rfl) (hline : (apos.endLine == pos.line) = true := by rfl) :
    PE X (.Call (.Attribute o "join" apos) [e] [] pos) (tM1 (rJoin X.K) to te) := pe_join ho he hs hbase hline
end
end Gx
/-! ### nested data -/
namespace Gx
open PySem PySem.Spec PyProof.Rows L2
section
variable {K : PySem.W.Frag} {H H' : Hp}
theorem _root_.L2.Same.seqT {a : Addr} {xs : List V} (e : Same H H') (h : SqT K H a xs) : SqT K H' a xs := by
  rcases h with (h | ⟨o, h⟩) | h
  · exact .inl (.inl (e _ _ h))
  · exact .inl (.inr ⟨o, e _ _ h⟩)
  · exact .inr h
mutual
theorem dp_same (e : Same H H') : ∀ (d : PyData) (v : V), Dp K H v d → Dp K H' v d
  | .none, _, h => by cases h; exact .non
  | .bool _, _, h => by cases h; exact .bl _
  | .int _, _, h => by cases h; exact .int _
  | .str _, _, h => by cases h; exact .str _
  | .list ds, _, h => by
    cases h with
    | lst hs ha => exact .lst (e.seq hs) (dpAll_same e ds _ ha)
  | .tuple ds, _, h => by
    cases h with
    | tup hs ha => exact .tup (e.seqT hs) (dpAll_same e ds _ ha)
  | .dict _, _, h => by cases h
theorem dpAll_same (e : Same H H') : ∀ (ds : List PyData) (vs : List V), DpAll K H vs ds → DpAll K H' vs ds
  | [], _, h => by cases h; exact .nil
  | d :: ds, _, h => by
    cases h with
    | cons h1 h2 => exact .cons (dp_same e d _ h1) (dpAll_same e ds _ h2)
end
mutual
/-- no list within -/
def noL : PyData → Bool
  | .none | .bool _ | .int _ | .str _ => true
  | .tuple xs => noLs xs
  | .list _ | .dict _ => false
def noLs : List PyData → Bool
  | [] => true
  | x :: xs => noL x && noLs xs
end
/-- all tuples stay -/
def Tups (K : PySem.W.Frag) (H H' : Hp) : Prop := ∀ a xs, SqT K H a xs → SqT K H' a xs
theorem Tups.of (e : Same H H') : Tups K H H' := fun _ _ h => e.seqT h
theorem Tups.upd {p : Addr} {xs ys : List V} (h : H p = some (.lst xs)) : Tups K H (upd H p (.lst ys)) := fun a us q => by
  rcases q with (q | ⟨o, q⟩) | q
  · exact .inl (.inl (by rw [upd_ne (ne_of q h (by intro z; cases z))]; exact q))
  · exact .inl (.inr ⟨o, by rw [upd_ne (ne_of q h (by intro z; cases z))]; exact q⟩)
  · exact .inr q
mutual
theorem dp_tups (e : Tups K H H') : ∀ (d : PyData) (v : V), noL d = true → Dp K H v d → Dp K H' v d
  | .none, _, _, h => by cases h; exact .non
  | .bool _, _, _, h => by cases h; exact .bl _
  | .int _, _, _, h => by cases h; exact .int _
  | .str _, _, _, h => by cases h; exact .str _
  | .list ds, _, n, h => by simp [noL] at n
  | .tuple ds, _, n, h => by
    cases h with
    | tup hs ha => exact .tup (e _ _ hs) (dpAll_tups e ds _ (by simpa [noL] using n) ha)
  | .dict _, _, _, h => by cases h
theorem dpAll_tups (e : Tups K H H') : ∀ (ds : List PyData) (vs : List V), noLs ds = true → DpAll K H vs ds → DpAll K H' vs ds
  | [], _, _, h => by cases h; exact .nil
  | d :: ds, _, n, h => by
    have n' : noL d = true ∧ noLs ds = true := by simpa [noLs] using n
    cases h with
    | cons h1 h2 => exact .cons (dp_tups e d _ n'.1 h1) (dpAll_tups e ds _ n'.2 h2)
end
theorem dpAll_len : ∀ {vs : List V} {ds : List PyData}, DpAll K H vs ds → vs.length = ds.length
  | _, _, .nil => rfl
  | _, _, .cons _ t => by rw [List.length_cons, List.length_cons, dpAll_len t]
theorem dpAll_app : ∀ {vs ws : List V} {ds es : List PyData}, DpAll K H vs ds → DpAll K H ws es → DpAll K H (vs ++ ws) (ds ++ es)
  | _, _, _, _, .nil, h => h
  | _, _, _, _, .cons a t, h => .cons a (dpAll_app t h)
theorem dpAll_get : ∀ {vs : List V} {ds : List PyData} {i : Nat} {v : V}, DpAll K H vs ds → vs[i]? = some v → ∃ d, ds[i]? = some d ∧ Dp K H v d
  | _, _, _, _, .nil, h => by simp at h
  | _, _, 0, _, .cons a t, h => by
    simp at h
    subst h
    exact ⟨_, rfl, a⟩
  | _, _, i + 1, _, .cons a t, h => dpAll_get (i := i) t (by simpa using h)
theorem dpAll_ints : ∀ (ns : List Int), DpAll K H (ns.map V.int) (ns.map PyData.int)
  | [] => .nil
  | n :: r => .cons (.int n) (dpAll_ints r)
end
mutual
/-- what _law_kind tells of a datum -/
def kindD : PyData → PyData
  | .none => .tuple [.str (mkS [110, 111, 110, 101])]
  | .bool b => .tuple [.str (mkS [116, 114, 117, 116, 104]), .str (Str.ofString (if b then "True" else "False"))]
  | .int i => .tuple [.str (mkS [110, 117, 109, 98, 101, 114]), .int i]
  | .str x => .tuple [.str (mkS [116, 101, 120, 116]), .str x]
  | .list xs => .tuple (.str (mkS [108, 105, 115, 116]) :: kindAll xs)
  | .tuple xs => .tuple (.str (mkS [116, 117, 112, 108, 101]) :: kindAll xs)
  | .dict _ => .tuple [.str (mkS [111, 116, 104, 101, 114])]
def kindAll : List PyData → List PyData
  | [] => []
  | x :: xs => kindD x :: kindAll xs
end
theorem kindAll_app : ∀ xs ys : List PyData, kindAll (xs ++ ys) = kindAll xs ++ kindAll ys
  | [], _ => by simp [kindAll]
  | x :: xs, ys => by rw [List.cons_append, kindAll, kindAll, kindAll_app xs ys, List.cons_append]
theorem kindAll_len : ∀ xs : List PyData, (kindAll xs).length = xs.length
  | [] => rfl
  | x :: xs => by rw [kindAll, List.length_cons, List.length_cons, kindAll_len xs]
theorem kindAll_get : ∀ (xs : List PyData) (i : Nat), (kindAll xs)[i]? = xs[i]?.map kindD
  | [], i => by simp [kindAll]
  | x :: xs, 0 => by simp [kindAll]
  | x :: xs, i + 1 => by
    rw [kindAll]
    simpa using kindAll_get xs i
mutual
theorem noL_kind : ∀ d : PyData, noL (kindD d) = true
  | .none => rfl
  | .bool _ => rfl
  | .int _ => rfl
  | .str _ => rfl
  | .list xs => by simp only [kindD, noL, noLs, Bool.true_and]; exact noLs_kind xs
  | .tuple xs => by simp only [kindD, noL, noLs, Bool.true_and]; exact noLs_kind xs
  | .dict _ => rfl
theorem noLs_kind : ∀ ds : List PyData, noLs (kindAll ds) = true
  | [] => rfl
  | d :: ds => by rw [kindAll, noLs, noL_kind d, noLs_kind ds]; rfl
end
theorem noLs_take : ∀ (ds : List PyData) (i : Nat), noLs ds = true → noLs (ds.take i) = true
  | [], i, _ => by simp [noLs]
  | d :: ds, 0, _ => rfl
  | d :: ds, i + 1, h => by
    have h' : noL d = true ∧ noLs ds = true := by simpa [noLs] using h
    rw [List.take_succ_cons, noLs, h'.1, noLs_take ds i h'.2]
    rfl
mutual
/-- data that can be told and compared: texts of code points, no dict, lists of at most 100000 -/
def okD : PyData → Bool
  | .none | .bool _ | .int _ => true
  | .str x => PyData.strOk x
  | .list xs | .tuple xs => decide (xs.length ≤ 100000) && okDs xs
  | .dict _ => false
def okDs : List PyData → Bool
  | [] => true
  | x :: xs => okD x && okDs xs
end
theorem okDs_get : ∀ {xs : List PyData} {i : Nat} {d : PyData}, okDs xs = true → xs[i]? = some d → okD d = true
  | [], _, _, _, h => by simp at h
  | x :: xs, 0, _, k, h => by
    have k' : okD x = true ∧ okDs xs = true := by simpa [okDs] using k
    simp at h
    subst h
    exact k'.1
  | x :: xs, i + 1, _, k, h => by
    have k' : okD x = true ∧ okDs xs = true := by simpa [okDs] using k
    exact okDs_get (i := i) k'.2 (by simpa using h)
theorem depth_get : ∀ {xs : List PyData} {i : Nat} {d : PyData}, xs[i]? = some d → PyData.depth d ≤ PyData.depthAll xs
  | [], _, _, h => by simp at h
  | x :: xs, 0, _, h => by
    simp at h
    subst h
    exact Nat.le_max_left _ _
  | x :: xs, i + 1, d, h => by
    have := depth_get (xs := xs) (i := i) (d := d) (by simpa using h)
    exact Nat.le_trans this (Nat.le_max_right _ _)
mutual
theorem can_kind : ∀ d : PyData, okD d = true → PyData.canLay0 (kindD d) = true
  | .none, _ => by simp [kindD, PyData.canLay0, PyData.canLayAll0, PyData.strOk, mkS]
  | .bool b, _ => by cases b <;> (simp [kindD, PyData.canLay0, PyData.canLayAll0, PyData.strOk, mkS]; decide +kernel)
  | .int i, _ => by simp [kindD, PyData.canLay0, PyData.canLayAll0, PyData.strOk, mkS]
  | .str x, h => by
    have h' : PyData.strOk x = true := by simpa [okD] using h
    simp [kindD, PyData.canLay0, PyData.canLayAll0, h']
    simp [PyData.strOk, mkS]
  | .list xs, h => by
    have h' : xs.length ≤ 100000 ∧ okDs xs = true := by simpa [okD] using h
    simp only [kindD, PyData.canLay0, PyData.canLayAll0, can_kinds xs h'.2]
    simp [PyData.strOk, mkS]
  | .tuple xs, h => by
    have h' : xs.length ≤ 100000 ∧ okDs xs = true := by simpa [okD] using h
    simp only [kindD, PyData.canLay0, PyData.canLayAll0, can_kinds xs h'.2]
    simp [PyData.strOk, mkS]
  | .dict _, h => by simp [okD] at h
theorem can_kinds : ∀ ds : List PyData, okDs ds = true → PyData.canLayAll0 (kindAll ds) = true
  | [], _ => rfl
  | d :: ds, h => by
    have h' : okD d = true ∧ okDs ds = true := by simpa [okDs] using h
    simp only [kindAll, PyData.canLayAll0, can_kind d h'.1, can_kinds ds h'.2, Bool.and_self]
end
mutual
theorem depth_kind : ∀ d : PyData, PyData.depth (kindD d) ≤ PyData.depth d + 1
  | .none => by simp [kindD, PyData.depth, PyData.depthAll]
  | .bool _ => by simp [kindD, PyData.depth, PyData.depthAll]
  | .int _ => by simp [kindD, PyData.depth, PyData.depthAll]
  | .str _ => by simp [kindD, PyData.depth, PyData.depthAll]
  | .list xs => by
    have := depth_kinds xs
    simp only [kindD, PyData.depth, PyData.depthAll]
    omega
  | .tuple xs => by
    have := depth_kinds xs
    simp only [kindD, PyData.depth, PyData.depthAll]
    omega
  | .dict _ => by simp [kindD, PyData.depth, PyData.depthAll]
theorem depth_kinds : ∀ ds : List PyData, PyData.depthAll (kindAll ds) ≤ PyData.depthAll ds + 1
  | [] => by simp [kindAll, PyData.depthAll]
  | d :: ds => by
    have h1 := depth_kind d
    have h2 := depth_kinds ds
    simp only [kindAll, PyData.depthAll]
    omega
end
theorem shaped_kind {d : PyData} (h : okD d = true) (n : PyData.depth d ≤ 60) : SeqAt.shaped (kindD d) = true := by
  unfold SeqAt.shaped
  rw [can_kind d h, Bool.true_and]
  have := depth_kind d
  exact decide_eq_true (by omega)
theorem eqv_kind {d : PyData} (h : okD d = true) : PyData.eqv (kindD d) (kindD d) = true := SeqAt.eqv_refl _ (can_kind d h)
def rStrB : List V → Hp → VK → Prop := fun xs H Q => ∃ b, xs = [.bl b] ∧ Q (.str (Str.ofString (if b then "True" else "False"))) H
theorem cr_strB {X : Cx} : CallR X (.type "str") rStrB := by
  intro pins s σ H xs us Q I r h
  obtain ⟨b, rfl, q⟩ := h
  obtain ⟨u, rfl, r1⟩ := vals1 r
  cases r1
  refine PySem.P.str_of_bool ⟨.str _, H, I.tok _, ⟨_, rfl⟩, ?_⟩
  cases b <;> exact q
theorem strB {H : Hp} {Q : VK} {b : Bool} (h : Q (.str (Str.ofString (if b then "True" else "False"))) H) : rStrB [.bl b] H Q := ⟨b, rfl, h⟩
/-- tuple(a list) -/
def rTupL (K : PySem.W.Frag) : List V → Hp → VK → Prop := fun xs H Q => ∃ p ys, xs = [.ref p] ∧ ((SqL K H p ys ∧ ∀ l, H l = none → Q (.ref l) (upd H l (.tup ys))) ∨ (SqT K H p ys ∧ Q (.ref p) H))
theorem cr_tupL {X : Cx} : CallR X (.type "tuple") (rTupL X.K) := call_tuple_of
theorem tupL {K : PySem.W.Frag} {H : Hp} {Q : VK} {p : Addr} {ys : List V} (h : SqL K H p ys) (q : ∀ l, H l = none → Q (.ref l) (upd H l (.tup ys))) : rTupL K [.ref p] H Q := ⟨p, ys, rfl, .inl ⟨h, q⟩⟩
theorem tupT {K : PySem.W.Frag} {H : Hp} {Q : VK} {p : Addr} {ys : List V} (h : SqT K H p ys) (q : Q (.ref p) H) : rTupL K [.ref p] H Q := ⟨p, ys, rfl, .inr ⟨h, q⟩⟩
theorem catT {K : PySem.W.Frag} {H : Hp} {Q : VK} {a b : Addr} {xs ys : List V} (ha : SqT K H a xs) (hb : SqT K H b ys) (ne : xs ≠ []) (l : xs.length + ys.length ≤ 16777216) (q0 : ys = [] → Q (.ref a) H) (q : ys ≠ [] → ∀ p, H p = none → Q (.ref p) (upd H p (.tup (xs ++ ys)))) : rCatT K (.ref a) (.ref b) H Q :=
  ⟨a, b, xs, ys, rfl, rfl, ha, hb, ne, by rw [sizeLine_eq]; exact l, q0, q⟩
/-- (word,) + tuple(..): the two ways in one -/
theorem catT' {K : PySem.W.Frag} {H : Hp} {Q : VK} {a b : Addr} {xs ys : List V} (ha : SqT K H a xs) (hb : SqT K H b ys) (ne : xs ≠ []) (l : xs.length + ys.length ≤ 16777216) (q : ∀ p H', Same H H' → SqT K H' p (xs ++ ys) → Q (.ref p) H') : rCatT K (.ref a) (.ref b) H Q :=
  catT ha hb ne l (fun e => q a H (Same.refl H) (by rw [e, List.append_nil]; exact ha)) (fun _ p np => q p _ (ext1 np).same (SqT.of upd_same))
theorem atI_of {xs : List V} {i : Int} {k : Nat} {v : V} (e : i = k) (h : xs[k]? = some v) : atI xs i = some v := by rw [e]; exact atI_nat h
theorem cutV_A (l : List V) {j : Int} (h : 0 ≤ j) : cutV l none (some j) = l.take j.toNat := by
  unfold cutV
  rw [HT.sIx_none, sIx_int _ _ h, List.drop_zero, Nat.sub_zero, ← List.take_eq_take_min]
theorem cutV_B (l : List V) {i : Int} (h : 0 ≤ i) : cutV l (some i) none = l.drop i.toNat := by
  unfold cutV
  rw [HT.sIx_none, sIx_int _ _ h]
  rw [List.take_of_length_le (by rw [List.length_drop]; omega)]
  by_cases c : i.toNat ≤ l.length
  · rw [Nat.min_eq_left c]
  · rw [Nat.min_eq_right (by omega), List.drop_length, List.drop_eq_nil_of_le (by omega)]
theorem cutV_C (l : List V) {i j : Int} (h : 0 ≤ i) (h' : 0 ≤ j) : cutV l (some i) (some j) = (l.take j.toNat).drop i.toNat := by
  unfold cutV
  rw [sIx_int _ _ h, sIx_int _ _ h', List.drop_take]
  by_cases c : i.toNat ≤ l.length
  · rw [Nat.min_eq_left c]
    by_cases d : j.toNat ≤ l.length
    · rw [Nat.min_eq_left d]
    · rw [Nat.min_eq_right (by omega), List.take_of_length_le (by rw [List.length_drop]; omega), List.take_of_length_le (by rw [List.length_drop]; omega)]
  · rw [Nat.min_eq_right (a := i.toNat) (by omega), List.drop_length, List.drop_eq_nil_of_le (by omega)]
    simp
theorem dpAll_take {K : PySem.W.Frag} {H : Hp} : ∀ {vs : List V} {ds : List PyData} (n : Nat), DpAll K H vs ds → DpAll K H (vs.take n) (ds.take n)
  | _, _, 0, _ => .nil
  | _, _, _ + 1, .nil => .nil
  | _, _, n + 1, .cons a t => .cons a (dpAll_take n t)
theorem dpAll_drop {K : PySem.W.Frag} {H : Hp} : ∀ {vs : List V} {ds : List PyData} (n : Nat), DpAll K H vs ds → DpAll K H (vs.drop n) (ds.drop n)
  | _, _, 0, h => h
  | _, _, _ + 1, .nil => .nil
  | _, _, n + 1, .cons _ t => dpAll_drop n t
/-- a datum is appended -/
theorem dpAll_snoc {K : PySem.W.Frag} {H : Hp} {p : Addr} {vs : List V} {v : V} {ds : List PyData} {d : PyData} (e : H p = some (.lst vs)) (h : DpAll K H vs ds) (n : noLs ds = true) (hv : Dp K H v d) (nd : noL d = true) :
    DpAll K (upd H p (.lst (vs ++ [v]))) (vs ++ [v]) (ds ++ [d]) :=
  dpAll_app (dpAll_tups (Tups.upd e) _ _ n h) (.cons (dp_tups (Tups.upd e) _ _ nd hv) .nil)
/-- code points -/
def Cp (l : List Nat) : Prop := ∀ c ∈ l, c < 1114112
theorem Cp.app {a b : List Nat} (h : Cp a) (g : Cp b) : Cp (a ++ b) := fun c hc => (List.mem_append.mp hc).elim (h c) (g c)
theorem Cp.take {a : List Nat} (h : Cp a) (n : Nat) : Cp (a.take n) := fun c hc => h c (List.mem_of_mem_take hc)
theorem Cp.drop {a : List Nat} (h : Cp a) (n : Nat) : Cp (a.drop n) := fun c hc => h c (List.mem_of_mem_drop hc)
theorem Cp.ok {a : List Nat} (h : Cp a) : PyData.strOk (mkS a) = true := by
  unfold PyData.strOk mkS
  simp only [List.all_toArray, List.all_eq_true, decide_eq_true_eq]
  exact h
theorem Cp.okD {a : List Nat} (h : Cp a) : okD (.str (mkS a)) = true := by
  rw [Gx.okD]
  exact h.ok
theorem sortI {K : PySem.W.Frag} {H : Hp} {Q : VK} {a : Addr} {ns : List Int} (e : SqL K H a (ns.map V.int)) (h : ∀ (ns' : List Int) p H1, ns'.Perm ns → ns'.Pairwise (· ≤ ·) → Ext1 H H1 p (.lst (ns'.map V.int)) → Q (.ref p) H1) : rSortedI K [.ref a] H Q :=
  ⟨a, ns, rfl, e, fun ns' p pm pw np => h ns' p _ pm pw (ext1 np)⟩
end Gx
/-! ### dicts whose keys are nested tuples -/
namespace Gx
open PySem PySem.Spec PyProof.Rows L2
mutual
/-- the value v is the key k -/
inductive NV (H : Hp) : NestedKey → V → Prop
  | int (i : Int) : NV H (.num i) (.int i)
  | str (x : Str) : NV H (.text x) (.str x)
  | tup {b vs ks} : H b = some (.tup vs) → NVs H ks vs → NV H (.tup ks) (.ref b)
inductive NVs (H : Hp) : List NestedKey → List V → Prop
  | nil : NVs H [] []
  | cons {k v ks vs} : NV H k v → NVs H ks vs → NVs H (k :: ks) (v :: vs)
end
mutual
theorem NV.keeps {H H' : Hp} (t : ∀ b ys, H b = some (.tup ys) → H' b = some (.tup ys)) : ∀ (k : NestedKey) (v : V), NV H k v → NV H' k v
  | .none, _, h => nomatch h
  | .num i, _, h => by cases h; exact .int _
  | .text x, _, h => by cases h; exact .str _
  | .tup ks, _, h => by
    cases h with
    | tup h1 h2 => exact .tup (t _ _ h1) (NVs.keeps t ks _ h2)
theorem NVs.keeps {H H' : Hp} (t : ∀ b ys, H b = some (.tup ys) → H' b = some (.tup ys)) : ∀ (ks : List NestedKey) (vs : List V), NVs H ks vs → NVs H' ks vs
  | [], _, h => by cases h; exact .nil
  | k :: ks, _, h => by
    cases h with
    | cons h1 h2 => exact .cons (NV.keeps t k _ h1) (NVs.keeps t ks _ h2)
end
theorem NVs.ints {H : Hp} : ∀ l : List Int, NVs H (l.map .num) (l.map V.int)
  | [] => .nil
  | i :: l => .cons (.int i) (NVs.ints l)
mutual
theorem NV.is {P : Program} {w : World} {H : Hp} {h : Heap} (ok : HOk P w H h) : ∀ (k : NestedKey) (v : V) (u : Value), NV H k v → RelV v u → NestedIs h k u
  | .none, _, _, h, _ => nomatch h
  | .num i, _, _, h, r => by
    cases h
    obtain ⟨t, rfl⟩ := r
    exact .int _ _
  | .text x, _, _, h, r => by
    cases h
    obtain ⟨t, rfl⟩ := r
    exact .text _ _
  | .tup ks, _, _, h, r => by
    cases h with
    | tup h1 h2 =>
      obtain rfl := r
      obtain ⟨_, its, rv, o, e, hc, n, hd⟩ := ok _ _ h1
      exact .tup e hc hd (NVs.is ok ks _ _ h2 (by simpa using rv))
theorem NVs.is {P : Program} {w : World} {H : Hp} {h : Heap} (ok : HOk P w H h) : ∀ (ks : List NestedKey) (vs : List V) (us : List Value), NVs H ks vs → Vals vs us → NestedAll h ks us
  | [], _, _, h, r => by
    cases h
    cases r
    exact .nil
  | k :: ks, _, _, h, r => by
    cases h with
    | cons h1 h2 =>
      cases r with
      | cons r1 r2 => exact .cons (NV.is ok k _ _ h1 r1) (NVs.is ok ks _ _ h2 r2)
end
/-- an entry: key, the key's tuple, value -/
abbrev E3 := NestedKey × Addr × V
abbrev EV : List E3 → List (NestedKey × Addr × Value) → Prop := Paired fun p q => p.1 = q.1 ∧ p.2.1 = q.2.1 ∧ RelV p.2.2 q.2.2
/-- the dict's own object -/
def dnO (P : Program) (w : World) (a : Addr) (xs : List E3) (h : Heap) : Prop := xs.length ≤ sizeLine ∧ (a == sysModules) = false ∧ ∃ ys, EV xs ys ∧ ∃ o es ep, h.get? a = some o ∧ o.ExactDict ∧ o.data = .dict es ep ∧ es.toList = ys.map (entryOfKey (nestedKind P w)) ∧ (ys.map (·.1)).Nodup
def dnP (xs : List E3) : List (NestedKey × V) := xs.map fun x => (x.1, x.2.2)
/-- at a stands a dict with the keys and values kvs -/
def DN (P : Program) (w : World) (H : Hp) (a : Addr) (kvs : List (NestedKey × V)) : Prop := ∃ xs, H a = some (.ext (dnO P w a xs)) ∧ (∀ x ∈ xs, NV H x.1 (.ref x.2.1) ∧ x.1.depth ≤ 8) ∧ dnP xs = kvs
/-- y is the key k -/
def NK (H : Hp) (k : NestedKey) (y : V) : Prop := ∃ b, y = .ref b ∧ NV H k (.ref b) ∧ k.depth ≤ 8
theorem DN.keeps {P : Program} {w : World} {H H' : Hp} {a : Addr} {kvs : List (NestedKey × V)} (d : DN P w H a kvs) (t : ∀ b ys, H b = some (.tup ys) → H' b = some (.tup ys)) (e : H' a = H a) : DN P w H' a kvs :=
  let ⟨xs, h1, h2, h3⟩ := d
  ⟨xs, e.trans h1, fun x hx => ⟨NV.keeps t _ _ (h2 x hx).1, (h2 x hx).2⟩, h3⟩
theorem DN.same {P : Program} {w : World} {H H' : Hp} {a : Addr} {kvs : List (NestedKey × V)} (d : DN P w H a kvs) (s : Same H H') : DN P w H' a kvs :=
  let ⟨xs, h1, h2, h3⟩ := d
  ⟨xs, s _ _ h1, fun x hx => ⟨NV.keeps (fun _ _ q => s _ _ q) _ _ (h2 x hx).1, (h2 x hx).2⟩, h3⟩
theorem NK.same {H H' : Hp} {k : NestedKey} {y : V} (d : NK H k y) (s : Same H H') : NK H' k y :=
  let ⟨b, h1, h2, h3⟩ := d
  ⟨b, h1, NV.keeps (fun _ _ q => s _ _ q) _ _ h2, h3⟩
theorem ev_val {xs : List E3} {ys : List (NestedKey × Addr × Value)} (r : EV xs ys) (k : NestedKey) : RelO (valV (dnP xs) k) ((atKey ys k).map (·.2)) := by
  induction r with
  | nil => exact True.intro
  | @cons p q ps qs h t ih =>
    obtain ⟨h1, _, h2⟩ := h
    show RelO (valV ((p.1, p.2.2) :: dnP ps) k) _
    by_cases e : p.1 = k
    · have e' : q.1 = k := h1.symm.trans e
      have b : atKey (q :: qs) k = some q.2 := by simp [atKey, List.find?_cons, e']
      rw [valV_pos e, b]; exact h2
    · have e' : ¬ q.1 = k := fun z => e (h1.trans z)
      have b : atKey (q :: qs) k = atKey qs k := by simp [atKey, List.find?_cons, e']
      rw [valV_neg e, b]; exact ih
def put3 (k : NestedKey) (b : Addr) (v : V) (xs : List E3) : List E3 := if (valV (dnP xs) k).isSome then xs.map (fun x => if x.1 = k then (x.1, x.2.1, v) else x) else xs ++ [(k, b, v)]
theorem put3_p (k : NestedKey) (b : Addr) (v : V) (xs : List E3) : dnP (put3 k b v xs) = putK (dnP xs) k v := by
  unfold put3 putK
  rw [valV_any]
  split
  · unfold dnP
    rw [List.map_map, List.map_map]
    refine List.map_congr_left fun x _ => ?_
    simp only [Function.comp_apply]
    split <;> rfl
  · simp [dnP]
theorem ev_repl {xs : List E3} {ys : List (NestedKey × Addr × Value)} (r : EV xs ys) (k : NestedKey) {y : V} {u : Value} (ry : RelV y u) : EV (xs.map fun x => if x.1 = k then (x.1, x.2.1, y) else x) (ys.map (putAt k u)) := by
  induction r with
  | nil => exact .nil
  | @cons p q ps qs h t ih =>
    rw [List.map_cons, List.map_cons]
    refine .cons ?_ ih
    obtain ⟨h1, h2, h3⟩ := h
    unfold putAt
    by_cases e : p.1 = k
    · rw [if_pos e, if_pos (h1.symm.trans e)]; exact ⟨h1, h2, ry⟩
    · rw [if_neg e, if_neg (fun z => e (h1.trans z))]; exact ⟨h1, h2, h3⟩
theorem ev_put {xs : List E3} {ys : List (NestedKey × Addr × Value)} (r : EV xs ys) (k : NestedKey) {b : Addr} {y : V} {u : Value} (ry : RelV y u) : EV (put3 k b y xs) (storedH ys k b u) := by
  have e : (valV (dnP xs) k).isSome = (atKey ys k).isSome := by
    rw [(ev_val r k).isSome_eq, Option.isSome_map]
  unfold put3 storedH
  rw [e]
  by_cases q : (atKey ys k).isSome = true
  · rw [if_pos q, if_pos q]; exact ev_repl r k ry
  · rw [if_neg q, if_neg q]; exact Paired.snoc r ⟨rfl, rfl, ry⟩
section
variable {X : Cx} {pins : List (Addr × Obj)} {σ : L2.St} {H : Hp} {s : Shared} {a : Addr} {y v : V} {u r : Value} {A : Around} {E : Value → Shared → Prop} {kvs : List (NestedKey × V)} {k : NestedKey}
theorem ev_mem {xs : List E3} {ys : List (NestedKey × Addr × Value)} (r : EV xs ys) {φ : NestedKey → Addr → Prop} (h : ∀ x ∈ xs, φ x.1 x.2.1) : ∀ x ∈ ys, φ x.1 x.2.1 := by
  induction r with
  | nil => exact fun x hx => nomatch hx
  | @cons p q ps qs g t ih =>
    intro x hx
    rcases List.mem_cons.mp hx with rfl | hx
    · have := h p List.mem_cons_self
      rw [g.1, g.2.1] at this
      exact this
    · exact ih (fun x hx => h x (List.mem_cons_of_mem _ hx)) x hx
theorem nk_is (I : Inv X pins σ H s) (g : NK H k y) (ry : RelV y u) : ∃ b, u = .ref b ∧ (nestedKind X.prog X.w).is s.heap k b := by
  obtain ⟨b, rfl, h2, h3⟩ := g
  obtain rfl := ry
  exact ⟨b, rfl, NV.is I.hok _ _ _ h2 rfl, h3⟩
theorem dn_of (I : Inv X pins σ H s) {xs : List E3} (e : H a = some (.ext (dnO X.prog X.w a xs))) (g : ∀ x ∈ xs, NV H x.1 (.ref x.2.1) ∧ x.1.depth ≤ 8) : xs.length ≤ sizeLine ∧ (a == sysModules) = false ∧ ∃ ys, EV xs ys ∧ s.heap.DictOfH (nestedKind X.prog X.w) a ys := by
  obtain ⟨⟨z, hd, ys, ev, o, es, ep, h1, h2, h3, h4, h5⟩, _⟩ := I.hok _ _ e
  exact ⟨z, hd, ys, ev, o, es, ep, h1, h2, h3, h4, ev_mem ev (φ := fun k b => (nestedKind X.prog X.w).is s.heap k b) (fun x hx => ⟨NV.is I.hok _ _ _ (g x hx).1 rfl, (g x hx).2⟩), h5⟩
theorem n_room (hu : A.units + 64 < cLine) : (nestedKind X.prog X.w).room A.in1 := by
  show A.units + 1 + 8 < cLine
  omega
theorem n_getItem {Q : Value → Shared → Prop} (hu : A.units + 64 < cLine) (I : Inv X pins σ H s) (d : DN X.prog X.w H a kvs) (g : NK H k y) (hv : valV kvs k = some v) (ry : RelV y u) (h : ∀ w' s', Inv X pins σ H s' → RelV v w' → Q w' s') :
    wpAny (model X.prog X.w) A (getItem (.ref a) u) Q E s := by
  obtain ⟨xs, e, gx, rfl⟩ := d
  obtain ⟨b, rfl, kb⟩ := nk_is I g ry
  obtain ⟨z, hd, ys, ev, dd⟩ := dn_of I e gx
  obtain ⟨w', hw, rw'⟩ := RelO.some_of (v := v) (o := (atKey ys k).map (·.2)) (by rw [← hv]; exact ev_val ev k)
  obtain ⟨p, hp, hp2⟩ := Option.map_eq_some_iff.mp hw
  refine wpAny_getItem_heap (n_room (X := X) hu) kb dd hp ?_
  rw [hp2]
  exact h w' _ (I.tok _) rw'
theorem n_in {Q : Value → Shared → Prop} (hu : A.units + 64 < cLine) (I : Inv X pins σ H s) (d : DN X.prog X.w H a kvs) (g : NK H k y) (ry : RelV y u) (h : ∀ s', Inv X pins σ H s' → Q (.bool (valV kvs k).isSome) s') :
    wpAny (model X.prog X.w) A (compareOp .In u (.ref a)) Q E s := by
  obtain ⟨xs, e, gx, rfl⟩ := d
  obtain ⟨b, rfl, kb⟩ := nk_is I g ry
  obtain ⟨z, hd, ys, ev, dd⟩ := dn_of I e gx
  refine wpAny_in_heap (n_room (X := X) hu) kb hd dd ?_
  have q := (ev_val ev k).isSome_eq
  rw [Option.isSome_map] at q
  rw [← q]
  exact h _ (I.tok _)
theorem n_notIn {Q : Value → Shared → Prop} (hu : A.units + 64 < cLine) (I : Inv X pins σ H s) (d : DN X.prog X.w H a kvs) (g : NK H k y) (ry : RelV y u) (h : ∀ s', Inv X pins σ H s' → Q (.bool (!(valV kvs k).isSome)) s') :
    wpAny (model X.prog X.w) A (compareOp .NotIn u (.ref a)) Q E s := by
  obtain ⟨xs, e, gx, rfl⟩ := d
  obtain ⟨b, rfl, kb⟩ := nk_is I g ry
  obtain ⟨z, hd, ys, ev, dd⟩ := dn_of I e gx
  refine wpAny_notIn_heap (n_room (X := X) hu) kb hd dd ?_
  have q := (ev_val ev k).isSome_eq
  rw [Option.isSome_map] at q
  rw [← q]
  exact h _ (I.tok _)
theorem put3_len (k : NestedKey) (b : Addr) (v : V) (xs : List E3) : (put3 k b v xs).length ≤ xs.length + 1 := by
  unfold put3
  split
  · rw [List.length_map]; omega
  · rw [List.length_append, List.length_singleton]; omega
theorem put3_all {φ : NestedKey → Addr → Prop} {k : NestedKey} {b : Addr} {v : V} {xs : List E3} (h : ∀ x ∈ xs, φ x.1 x.2.1) (g : φ k b) : ∀ x ∈ put3 k b v xs, φ x.1 x.2.1 := by
  intro x hx
  unfold put3 at hx
  split at hx
  · obtain ⟨z, hz, rfl⟩ := List.mem_map.mp hx
    split
    · exact h z hz
    · exact h z hz
  · rcases List.mem_append.mp hx with hx | hx
    · exact h x hx
    · cases List.mem_singleton.mp hx
      exact g
theorem dnO_stay {P : Program} {w : World} {xs : List E3} (h1 h2 : Heap) (p : dnO P w a xs h1) (k : ∀ o, h1.get? a = some o → h2.get? a = some o) : dnO P w a xs h2 := by
  obtain ⟨z, hd, ys, ev, o, es, ep, e1, e2, e3, e4, e5⟩ := p
  exact ⟨z, hd, ys, ev, o, es, ep, k _ e1, e2, e3, e4, e5⟩
theorem n_setItem {Q : Unit → Shared → Prop} (hu : A.units + 64 < cLine) (I : Inv X pins σ H s) (d : DN X.prog X.w H a kvs) (g : NK H k y) (hl : kvs.length < sizeLine) (ry : RelV y u) (rv : RelV v r)
    (h : ∀ H' s', DN X.prog X.w H' a (putK kvs k v) → (∀ b, b ≠ a → H' b = H b) → Inv X pins σ H' s' → Q () s') : wpAny (model X.prog X.w) A (setItem (.ref a) u r) Q E s := by
  obtain ⟨xs, e, gx, rfl⟩ := d
  obtain ⟨b, ey, nb, hk8⟩ := id g
  obtain ⟨b', rfl, kb⟩ := nk_is I g ry
  subst ey
  obtain rfl : b' = b := by
    have : Value.ref b' = Value.ref b := ry
    injection this
  obtain ⟨z, hd, ys, ev, dd⟩ := dn_of I e gx
  have hlx : xs.length < sizeLine := by unfold dnP at hl; rwa [List.length_map] at hl
  have hz : ys.length ≤ sizeLine := by rw [← Paired.length ev]; exact z
  refine wpAny_setItem_heap (hsz := hz) (n_room (X := X) hu) kb dd fun h' dd' hs => ?_
  have tk : ∀ c zs, H c = some (.tup zs) → (upd H a (.ext (dnO X.prog X.w a (put3 k b' v xs)))) c = some (.tup zs) := fun c zs ec => by
    rw [upd_ne (ne_of ec e (fun z => nomatch z))]
    exact ec
  refine h (upd H a (.ext (dnO X.prog X.w a (put3 k b' v xs)))) _ ⟨_, upd_same, ?_, put3_p _ _ _ _⟩ (fun c hc => upd_ne hc) ?_
  · exact put3_all (φ := fun k b => NV _ k (.ref b) ∧ k.depth ≤ 8) (fun x hx => ⟨NV.keeps tk _ _ (gx x hx).1, (gx x hx).2⟩) ⟨NV.keeps tk _ _ nb, hk8⟩
  · obtain ⟨q, es, ep, hq, h2, h3, h4, _, h5⟩ := dd'
    have hlen := put3_len k b' v xs
    refine d_write I (by rw [e]; exact True.intro) hs ⟨q, hq⟩ ⟨⟨by omega, hd, _, ev_put ev k rv, q, es, ep, hq, h2, h3, h4, h5⟩, ⟨q, hq⟩, dnO_stay⟩
/-- {} -/
def tNNew (P : Program) (w : World) : TE := fun _ H Q => ∀ p H', H p = none → DN P w H' p [] → (∀ b, b ≠ p → H' b = H b) → Q (.ref p) H'
theorem pe_nnew {pos : Pos} : PE X (.Dict [] [] pos) (tNNew X.prog X.w) := ⟨fun pins s σ H Q I h => by
  have ok : dnO X.prog X.w s.heap.objs.size [] (s.heap.push { cls := .type "dict", data := .dict #[] }) :=
    ⟨Nat.zero_le _, beq_eq_false_iff_ne.mpr (Ne.symm (Nat.ne_of_lt I.big)), [], .nil, _, #[], 0, Heap.get?_push_size _ rfl, ⟨rfl, rfl, rfl⟩, rfl, rfl, List.nodup_nil⟩
  refine wpAny_Dict_empty ⟨.ref s.heap.objs.size, upd H s.heap.objs.size (.ext (dnO X.prog X.w s.heap.objs.size [])), I.laid (t' := s.toks) (fun _ _ q => Heap.get?_push_of_some _ q) (Nat.le_refl _) ⟨ok, ⟨_, Heap.get?_push_size _ rfl⟩, dnO_stay⟩, rfl, ?_⟩
  exact h _ _ (I.hok.fresh (Nat.le_refl _)) ⟨[], upd_same, (fun x hx => nomatch hx), rfl⟩ fun b hb => upd_ne hb⟩
def tNGet (P : Program) (w : World) (td ty : TE) : TE := fun σ H Q => td σ H fun x H1 => ty σ H1 fun y H2 => ∃ a kvs k v, x = .ref a ∧ DN P w H2 a kvs ∧ NK H2 k y ∧ valV kvs k = some v ∧ Q v H2
def tNIn (P : Program) (w : World) (ty td : TE) : TE := fun σ H Q => ty σ H fun y H1 => td σ H1 fun x H2 => ∃ a kvs k, x = .ref a ∧ DN P w H2 a kvs ∧ NK H2 k y ∧ Q (.bl (valV kvs k).isSome) H2
def tNNotIn (P : Program) (w : World) (ty td : TE) : TE := fun σ H Q => ty σ H fun y H1 => td σ H1 fun x H2 => ∃ a kvs k, x = .ref a ∧ DN P w H2 a kvs ∧ NK H2 k y ∧ Q (.bl (!(valV kvs k).isSome)) H2
def sNPut (P : Program) (w : World) (td ty tv : TE) : TS := fun D σ H => tv σ H fun v H1 => td σ H1 fun x H2 => ty σ H2 fun y H3 => ∃ a kvs k, x = .ref a ∧ DN P w H3 a kvs ∧ NK H3 k y ∧ kvs.length < sizeLine ∧ ∀ H4, DN P w H4 a (putK kvs k v) → (∀ b, b ≠ a → H4 b = H3 b) → D.nx σ H4
variable {o i e value : Expr} {pos pos' tpos : Pos} {td ty tv : TE}
theorem dn_typeIs (I : Inv X pins σ H s) (d : DN X.prog X.w H a kvs) : s.TypeIs (.ref a) "dict" := by
  obtain ⟨xs, e, gx, rfl⟩ := d
  obtain ⟨z, hd, ys, ev, dd⟩ := dn_of I e gx
  exact dd.typeIs
theorem pe_nget (hu : X.A.units + 64 < cLine) (ho : PE X o td) (hi : PE X i ty) (hs : NoSl i) : PE X (.Subscript o i pos) (tNGet X.prog X.w td ty) := by
  refine ⟨fun pins s σ H Q I h => ?_⟩
  refine subD_of PySem.F.slot_dict_getitem.lookup hs (thn (ho.run pins s σ H _ I h) fun u s1 ⟨x, H1, I1, rx, q1⟩ => thn (hi.run pins s1 σ H1 _ I1 q1) fun iv s2 ⟨y, H2, I2, ry, a, kvs, k, v, ex, d, g, hv, q2⟩ => ?_)
  subst ex
  obtain rfl : u = Value.ref a := rx
  exact ⟨dn_typeIs I2 d, n_getItem hu I2 d g hv ry fun w' s3 I3 rw' => ⟨v, H2, I3, rw', q2⟩⟩
theorem pc_nin (hu : X.A.units + 64 < cLine) (hi : PE X i ty) (ho : PE X o td) : PC X .In i o (tNIn X.prog X.w ty td) := by
  refine ⟨fun pins s σ H Q I h => ?_⟩
  refine thn (hi.run pins s σ H _ I h) fun iv s1 ⟨y, H1, I1, ry, q1⟩ => thn (ho.run pins s1 σ H1 _ I1 q1) fun u s2 ⟨x, H2, I2, rx, a, kvs, k, ex, d, g, q2⟩ => ?_
  subst ex
  obtain rfl : u = Value.ref a := rx
  exact n_in hu I2 d g ry fun s3 I3 => ⟨.bl (valV kvs k).isSome, H2, I3, rfl, q2⟩
theorem pc_nnotin (hu : X.A.units + 64 < cLine) (hi : PE X i ty) (ho : PE X o td) : PC X .NotIn i o (tNNotIn X.prog X.w ty td) := by
  refine ⟨fun pins s σ H Q I h => ?_⟩
  refine thn (hi.run pins s σ H _ I h) fun iv s1 ⟨y, H1, I1, ry, q1⟩ => thn (ho.run pins s1 σ H1 _ I1 q1) fun u s2 ⟨x, H2, I2, rx, a, kvs, k, ex, d, g, q2⟩ => ?_
  subst ex
  obtain rfl : u = Value.ref a := rx
  exact n_notIn hu I2 d g ry fun s3 I3 => ⟨.bl (!(valV kvs k).isSome), H2, I3, rfl, q2⟩
theorem ps_nput (hu : X.A.units + 64 < cLine) (ho : PE X o td) (hi : PE X i ty) (hv : PE X value tv) (hs : swapsWith value (some (.Subscript o i pos')) pos.line X.env = pure false) :
    PS X (.Assign [.Subscript o i pos'] value pos) (sNPut X.prog X.w td ty tv) := by
  refine ⟨fun pins s σ H D I h => ?_⟩
  refine wpAny_Assign_Subscript (thn (hv.run pins s σ H _ I h) fun r s1 ⟨v, H1, I1, rv, q1⟩ => thn (ho.run pins s1 σ H1 _ I1 q1) fun u s2 ⟨x, H2, I2, rx, q2⟩ => thn (hi.run pins s2 σ H2 _ I2 q2) fun iv s3 ⟨y, H3, I3, ry, a, kvs, k, ex, d, g, hl, q3⟩ => ?_) hs
  subst ex
  obtain rfl : u = Value.ref a := rx
  exact n_setItem hu I3 d g hl ry rv fun H4 s4 d4 k4 I4 => ⟨σ, H4, I4, q3 H4 d4 k4⟩
/-- len(d) -/
def rLenN (P : Program) (w : World) : List V → Hp → VK → Prop := fun xs H Q => ∃ p kvs, xs = [.ref p] ∧ DN P w H p kvs ∧ Q (.int ((kvs.length : Nat) : Int)) H
theorem cr_lenN {X : Cx} : CallR X (.builtin "len") (rLenN X.prog X.w) := by
  intro pins s σ H xs us Q I r h
  obtain ⟨p, kvs, rfl, ⟨xs, e, gx, rfl⟩, q⟩ := h
  obtain ⟨u, rfl, r1⟩ := vals1 r
  obtain rfl : u = Value.ref p := r1
  obtain ⟨z, hd, ys, ev, dd⟩ := dn_of I e gx
  refine call_len_dictH hd dd ?_ ?_
  · rw [← Paired.length ev]
    have : sizeLine < 2 ^ 62 := by rw [sizeLine_eq]; decide
    omega
  · have el : ys.length = (dnP xs).length := by unfold dnP; rw [List.length_map, Paired.length ev]
    rw [el]
    exact ⟨.int ((dnP xs).length : Nat), H, I.tok _, ⟨_, rfl⟩, q⟩
end
end Gx
/-! ### dicts, sequences that are lists or tuples, while -/
namespace Gx
open PySem PySem.Spec PyProof.Rows L2
theorem hu1 {A : Around} (h : A.units + 64 < cLine) : A.units + 1 < cLine := by omega
/-- a list or a tuple -/
def Sq (K : PySem.W.Frag) (H : Hp) (a : Addr) (xs : List V) : Prop := SqL K H a xs ∨ SqT K H a xs
theorem Sq.same {K : PySem.W.Frag} {H H' : Hp} {a : Addr} {xs : List V} (h : Sq K H a xs) (e : Same H H') : Sq K H' a xs := h.elim (fun z => .inl (e.seq z)) fun z => .inr (e.seqT z)
/-- walked, a list or a tuple -/
def iSq (K : PySem.W.Frag) (tl : TE) : TI := fun σ H R => tl σ H fun x H1 => ∃ a, x = .ref a ∧ (((∃ xs, SqL K H1 a xs) ∧ R (Itl K a) H1) ∨ ((∃ xs, SqT K H1 a xs) ∧ R (Itt K a) H1))
theorem pi_seq {X : Cx} {tg l : Expr} {tl : TE} (hl : PE X l tl) : PI X tg l (iSq X.K tl) := by
  refine ⟨fun pins s σ H R I h => ?_⟩
  refine thn (hl.run pins s σ H _ I h) fun v s1 ⟨x, H1, I1, r1, q1⟩ => ?_
  obtain ⟨a, e, q⟩ := q1
  subst e
  cases r1
  rcases q with ⟨⟨xs, hq⟩, q⟩ | ⟨⟨xs, hq⟩, q⟩
  · obtain ⟨its, rv, p, hz⟩ := I1.list hq
    refine wpAny_pyIter_list p.isList ?_
    refine ⟨s1.heap.objs.size, [s1.heap.objs.size], _, _, H1, rfl, I1.kept (t' := s1.toks) fun b o e => Heap.get?_push_of_some _ e, turn_list a _, ⟨_, Heap.get?_push_size _ rfl, rfl, rfl⟩, fun b hb => ?_, q⟩
    have e : b = s1.heap.objs.size := by simpa using hb
    subst e
    exact I1.fpOk (Nat.le_refl _) (I1.hok.fresh (Nat.le_refl _))
  · obtain ⟨its, rv, p, hz⟩ := I1.tuple hq
    refine wpAny_pyIter_tuple (show s1.heap.IsTuple a its.toArray from p) ?_
    refine ⟨s1.heap.objs.size, [s1.heap.objs.size], _, _, H1, rfl, I1.kept (t' := s1.toks) fun b o e => Heap.get?_push_of_some _ e, turn_tuple a _, ⟨_, Heap.get?_push_size _ rfl, rfl, rfl⟩, fun b hb => ?_, q⟩
    have e : b = s1.heap.objs.size := by simpa using hb
    subst e
    exact I1.fpOk (Nat.le_refl _) (I1.hok.fresh (Nat.le_refl _))
section
variable {σ : L2.St} {H : Hp} {Q : VK} {D : Ends} {td ty tv tk : TE} {K : PySem.W.Frag} {P : Program} {w : World}
theorem isq {R : It → Hp → Prop} (h : td σ H fun x H1 => ∃ a, x = .ref a ∧ (((∃ xs, SqL K H1 a xs) ∧ R (Itl K a) H1) ∨ ((∃ xs, SqT K H1 a xs) ∧ R (Itt K a) H1))) : iSq K td σ H R := h
theorem for_sq {H0 : Hp} {a : Addr} {xs : List V} {g : TG} {tb : TS} (Pv : Nat → L2.St → Hp → Prop) (hq : Sq K H0 a xs) (h0 : Pv 0 σ H) (hl : ∀ i σ H', i ≤ xs.length → Pv i σ H' → Same H0 H')
    (hs : ∀ i x σ H, xs[i]? = some x → Pv i σ H → g x σ H fun σ2 H2 => tb { D with nx := Pv (i + 1), ct := Pv (i + 1), bk := D.nx } σ2 H2) (hd : ∀ σ H, Pv xs.length σ H → D.nx σ H) :
    (((∃ xs, SqL K H a xs) ∧ ∃ W : Nat → Nat → L2.St → Hp → Prop, (∃ m, W 0 m σ H) ∧ ∀ i m σ H, W i m σ H →
      ((Itl K a).stop i H ∧ D.nx σ H) ∨ ((Itl K a).go i H ∧ ∃ N : L2.St → Hp → Prop, (∀ σ' H', N σ' H' → ∃ m', m' < m ∧ W (i + 1) m' σ' H') ∧ ∀ x H', (Itl K a).yld i H x H' → g x σ H' fun σ2 H2 => tb { D with nx := N, ct := N, bk := D.nx } σ2 H2))
    ∨ ((∃ xs, SqT K H a xs) ∧ ∃ W : Nat → Nat → L2.St → Hp → Prop, (∃ m, W 0 m σ H) ∧ ∀ i m σ H, W i m σ H →
      ((Itt K a).stop i H ∧ D.nx σ H) ∨ ((Itt K a).go i H ∧ ∃ N : L2.St → Hp → Prop, (∀ σ' H', N σ' H' → ∃ m', m' < m ∧ W (i + 1) m' σ' H') ∧ ∀ x H', (Itt K a).yld i H x H' → g x σ H' fun σ2 H2 => tb { D with nx := N, ct := N, bk := D.nx } σ2 H2))) := by
  rcases hq with hq | hq
  · exact .inl ⟨⟨_, (hl 0 σ H (Nat.zero_le _) h0).seq hq⟩, for_list Pv h0 (fun i σ H' hi p => (hl i σ H' hi p).seq hq) hs hd⟩
  · exact .inr ⟨⟨_, (hl 0 σ H (Nat.zero_le _) h0).seqT hq⟩, for_tup Pv h0 (fun i σ H' hi p => (hl i σ H' hi p).seqT hq) hs hd⟩
theorem lc_sq {a : Addr} {xs : List V} {g : TG} {tt : TT} {te : TE} {vs : List Nat} {Qd : Addr → Hp → Prop} (hq : Sq K H a xs) (hne : ∀ D, H D = none →
    ∃ Pv : Nat → Hp → Prop, Pv 0 (upd H D (.lst [])) ∧ (∀ i H', i ≤ xs.length → Pv i H' → Same H H') ∧
    (∀ i x H, xs[i]? = some x → Pv i H → g x (wipe σ vs) H fun σ2 H2 => wipe σ2 vs = wipe σ vs ∧ tt σ2 H2 fun b H3 =>
      if b = true then te σ2 H3 fun y H4 => ∃ acc, H4 D = some (.lst acc) ∧ acc.length < sizeLine ∧ Pv (i + 1) (upd H4 D (.lst (acc ++ [y]))) else Pv (i + 1) H3) ∧ (∀ H, Pv xs.length H → Qd D H)) :
    (((∃ xs, SqL K H a xs) ∧ ∀ D, H D = none → ∃ W : Nat → Nat → Hp → Prop, (∃ m, W 0 m (upd H D (.lst []))) ∧ ∀ i m H, W i m H →
      ((Itl K a).stop i H ∧ Qd D H) ∨ ((Itl K a).go i H ∧ ∃ Nx : Hp → Prop, (∀ H', Nx H' → ∃ m', m' < m ∧ W (i + 1) m' H') ∧ ∀ x H', (Itl K a).yld i H x H' → g x (wipe σ vs) H' fun σ2 H2 => wipe σ2 vs = wipe σ vs ∧ tt σ2 H2 fun b H3 =>
        if b = true then te σ2 H3 fun y H4 => ∃ acc, H4 D = some (.lst acc) ∧ acc.length < sizeLine ∧ Nx (upd H4 D (.lst (acc ++ [y]))) else Nx H3))
    ∨ ((∃ xs, SqT K H a xs) ∧ ∀ D, H D = none → ∃ W : Nat → Nat → Hp → Prop, (∃ m, W 0 m (upd H D (.lst []))) ∧ ∀ i m H, W i m H →
      ((Itt K a).stop i H ∧ Qd D H) ∨ ((Itt K a).go i H ∧ ∃ Nx : Hp → Prop, (∀ H', Nx H' → ∃ m', m' < m ∧ W (i + 1) m' H') ∧ ∀ x H', (Itt K a).yld i H x H' → g x (wipe σ vs) H' fun σ2 H2 => wipe σ2 vs = wipe σ vs ∧ tt σ2 H2 fun b H3 =>
        if b = true then te σ2 H3 fun y H4 => ∃ acc, H4 D = some (.lst acc) ∧ acc.length < sizeLine ∧ Nx (upd H4 D (.lst (acc ++ [y]))) else Nx H3))) := by
  rcases hq with hq | hq
  · refine .inl ⟨⟨_, hq⟩, fun D nD => ?_⟩
    obtain ⟨Pv, h0, hl, hs, hd⟩ := hne D nD
    exact lc_list Pv h0 (fun i H' hi p => (hl i H' hi p).seq hq) hs hd
  · refine .inr ⟨⟨_, hq⟩, fun D nD => ?_⟩
    obtain ⟨Pv, h0, hl, hs, hd⟩ := hne D nD
    exact lc_tup Pv h0 (fun i H' hi p => (hl i H' hi p).seqT hq) hs hd
theorem ixQ {p : Addr} {xs : List V} {i : Int} {k : Nat} {v : V} (c : Sq K H p xs) (e : i = k) (a : xs[k]? = some v) (h : Q v H) : rIx K (.ref p) (.int i) H Q :=
  c.elim (fun z => .inl ⟨p, xs, i, v, rfl, rfl, z, atI_of e a, h⟩) fun z => .inr (.inl ⟨p, xs, i, v, rfl, rfl, z, atI_of e a, h⟩)
theorem lenQ {p : Addr} {xs : List V} (c : Sq K H p xs) (h : Q (.int xs.length) H) : rLenQ K [.ref p] H Q := c.elim (fun z => lenL z h) fun z => lenT z h
theorem din (h : ty σ H fun y H1 => td σ H1 fun x H2 => ∃ a o, x = .ref a ∧ DGet H2 a y o ∧ Q (.bl o.isSome) H2) : tDIn ty td σ H Q := h
theorem dnotin (h : ty σ H fun y H1 => td σ H1 fun x H2 => ∃ a o, x = .ref a ∧ DGet H2 a y o ∧ Q (.bl (!o.isSome)) H2) : tDNotIn ty td σ H Q := h
theorem dget (h : td σ H fun x H1 => ty σ H1 fun y H2 => ∃ a v, x = .ref a ∧ DGet H2 a y (some v) ∧ Q v H2) : tDGet td ty σ H Q := h
theorem dput (h : tv σ H fun v H1 => td σ H1 fun x H2 => ty σ H2 fun y H3 => ∃ a H4, x = .ref a ∧ DPut H3 a y v H4 ∧ D.nx σ H4) : sDPut td ty tv D σ H := h
theorem dnewK (h : ∀ p, H p = none → Q (.ref p) (upd H p (.dK []))) : tDNewK σ H Q := h
theorem disp1 (h : ∀ p, H p = none → tk σ (upd H p (.dK [])) fun x H1 => tv σ H1 fun y H2 => H2 p = some (.dK []) ∧ ∃ kvs : List (Key × V), [(x, y)] = kvs.map (fun kv => (kV kv.1, kv.2)) ∧ kvs.length ≤ 15 ∧ Q (.ref p) (upd H2 p (.dK (mergeK [] kvs)))) : tDisp [(tk, tv)] σ H Q := h
theorem nin (h : ty σ H fun y H1 => td σ H1 fun x H2 => ∃ a kvs k, x = .ref a ∧ DN P w H2 a kvs ∧ NK H2 k y ∧ Q (.bl (valV kvs k).isSome) H2) : tNIn P w ty td σ H Q := h
theorem nnotin (h : ty σ H fun y H1 => td σ H1 fun x H2 => ∃ a kvs k, x = .ref a ∧ DN P w H2 a kvs ∧ NK H2 k y ∧ Q (.bl (!(valV kvs k).isSome)) H2) : tNNotIn P w ty td σ H Q := h
theorem nget (h : td σ H fun x H1 => ty σ H1 fun y H2 => ∃ a kvs k v, x = .ref a ∧ DN P w H2 a kvs ∧ NK H2 k y ∧ valV kvs k = some v ∧ Q v H2) : tNGet P w td ty σ H Q := h
theorem nput (h : tv σ H fun v H1 => td σ H1 fun x H2 => ty σ H2 fun y H3 => ∃ a kvs k, x = .ref a ∧ DN P w H3 a kvs ∧ NK H3 k y ∧ kvs.length < sizeLine ∧ ∀ H4, DN P w H4 a (putK kvs k v) → (∀ b, b ≠ a → H4 b = H3 b) → D.nx σ H4) : sNPut P w td ty tv D σ H := h
theorem nnew (h : ∀ p H', H p = none → DN P w H' p [] → (∀ b, b ≠ p → H' b = H b) → Q (.ref p) H') : tNNew P w σ H Q := h
theorem dc {wi : TI} {g : TG} {tt : TT} {vs : List Nat} (h : wi σ H fun J H1 => ∀ D, H1 D = none → ∃ W : Nat → Nat → Hp → Prop, (∃ m, W 0 m (upd H1 D (.dK []))) ∧ ∀ i m H, W i m H →
  (J.stop i H ∧ Q (.ref D) H) ∨ (J.go i H ∧ ∃ Nx : Hp → Prop, (∀ H', Nx H' → ∃ m', m' < m ∧ W (i + 1) m' H') ∧ ∀ x H', J.yld i H x H' → g x (wipe σ vs) H' fun σ2 H2 => wipe σ2 vs = wipe σ vs ∧ tt σ2 H2 fun b H3 =>
    if b = true then tk σ2 H3 fun y H4 => tv σ2 H4 fun z H5 => ∃ kvs k, y = kV k ∧ H5 D = some (.dK kvs) ∧ kvs.length < sizeLine ∧ Nx (upd H5 D (.dK (putK kvs k z))) else Nx H3)) : tDc wi g tt tk tv vs σ H Q := h
theorem wh {c : TT} {tb : TS} {W : Nat → L2.St → Hp → Prop} {m0 : Nat} (h0 : W m0 σ H) (hs : ∀ m σ H, W m σ H → c σ H fun b H1 => if b = true then ∃ N : L2.St → Hp → Prop, (∀ σ' H', N σ' H' → ∃ m', m' < m ∧ W m' σ' H') ∧ tb { D with nx := N, ct := N, bk := D.nx } σ H1 else D.nx σ H1) : tWhile c tb D σ H := ⟨W, ⟨m0, h0⟩, hs⟩
/-- bool(x) -/
def rBool1 : List V → Hp → VK → Prop := fun xs H Q => (∃ i, xs = [.int i] ∧ Q (.bl (i != 0)) H) ∨ ∃ k, xs = [.bl k] ∧ Q (.bl k) H
theorem cr_bool1 {X : Cx} : CallR X (.type "bool") rBool1 := call_bool1
theorem boolB {b : Bool} (h : Q (.bl b) H) : rBool1 [.bl b] H Q := .inr ⟨b, rfl, h⟩
theorem intB {b : Bool} (h : Q (.int (if b then 1 else 0)) H) : rInt1 [.bl b] H Q := .inr ⟨b, rfl, h⟩
/-- the dict at d holds at each s of o the number f s -/
def DM (H : Hp) (d : Addr) (n : Nat) (o : List Nat) (f : Nat → Nat) : Prop := ∃ kvs : List (Key × V), H d = some (.dK kvs) ∧ kvs.length ≤ n ∧ ∀ s ∈ o, valV kvs (.inl (s : Nat)) = some (.int (f s : Nat))
theorem DM.same {H H' : Hp} {d : Addr} {n : Nat} {o : List Nat} {f : Nat → Nat} (h : DM H d n o f) (e : Same H H') : DM H' d n o f := let ⟨kvs, a, b, c⟩ := h; ⟨kvs, e _ _ a, b, c⟩
end
end Gx
namespace Gx
open PySem PySem.Spec PyProof.Rows L2
/-- a dict made over a list that stays -/
theorem dc_list {K : PySem.W.Frag} {H0 : Hp} {a : Addr} {xs : List V} {g : TG} {tt : TT} {tk tv : TE} {vs : List Nat} {σ : L2.St} {H1 : Hp} {D : Addr} {Qd : Hp → Prop} (Pv : Nat → Hp → Prop) (hq : SqL K H0 a xs) (h0 : Pv 0 (upd H1 D (.dK []))) (hl : ∀ i H, i ≤ xs.length → Pv i H → Same H0 H)
    (hs : ∀ i x H, xs[i]? = some x → Pv i H → g x (wipe σ vs) H fun σ2 H2 => wipe σ2 vs = wipe σ vs ∧ tt σ2 H2 fun b H3 =>
      if b = true then tk σ2 H3 fun y H4 => tv σ2 H4 fun z H5 => ∃ kvs k, y = kV k ∧ H5 D = some (.dK kvs) ∧ kvs.length < sizeLine ∧ Pv (i + 1) (upd H5 D (.dK (putK kvs k z))) else Pv (i + 1) H3) (hd : ∀ H, Pv xs.length H → Qd H) :
    ∃ W : Nat → Nat → Hp → Prop, (∃ m, W 0 m (upd H1 D (.dK []))) ∧ ∀ i m H, W i m H →
      ((Itl K a).stop i H ∧ Qd H) ∨ ((Itl K a).go i H ∧ ∃ Nx : Hp → Prop, (∀ H', Nx H' → ∃ m', m' < m ∧ W (i + 1) m' H') ∧ ∀ x H', (Itl K a).yld i H x H' → g x (wipe σ vs) H' fun σ2 H2 => wipe σ2 vs = wipe σ vs ∧ tt σ2 H2 fun b H3 =>
        if b = true then tk σ2 H3 fun y H4 => tv σ2 H4 fun z H5 => ∃ kvs k, y = kV k ∧ H5 D = some (.dK kvs) ∧ kvs.length < sizeLine ∧ Nx (upd H5 D (.dK (putK kvs k z))) else Nx H3) := by
  refine ⟨fun i m H => m + i = xs.length ∧ Pv i H, ⟨xs.length, rfl, h0⟩, ?_⟩
  rintro i m H ⟨hm, p⟩
  have q := (hl i H (by omega) p).seq hq
  cases m with
  | zero =>
    have e : i = xs.length := by omega
    subst e
    exact .inl ⟨⟨xs, q, Nat.le_refl _⟩, hd H p⟩
  | succ m =>
    have hlt : i < xs.length := by omega
    refine .inr ⟨⟨xs, xs[i], q, List.getElem?_eq_getElem hlt⟩, Pv (i + 1), fun H' p' => ⟨m, Nat.lt_succ_self m, by omega, p'⟩, ?_⟩
    rintro x H' ⟨rfl, y⟩
    exact hs i x _ (y xs q) p
end Gx
namespace Gx
open PySem PySem.Spec PyProof.Rows L2
section
variable {X : Cx}
theorem sw_dict {kx vx : Expr} {gs : List Comprehension} {scope : Scope} {pos py : Pos} {y : Str} {l : Nat} {env : Env} (hk : env.scope.kind = .function) (hy : env.scope.names.lookup y = some .local) (hl : (py.line == pos.line) = true)
    (ha : (scope.names.any fun (n, k) => n == y && (k == .local || k == .cell)) = false) : swapsWith (.DictComp kx vx gs scope pos) (some (.Name y py)) l env = pure true := by
  have ky : env.kindOf y = some .local := hy
  have hb : env.blockKind = .function := by unfold Env.blockKind; rw [hk]; rfl
  unfold swapsWith
  simp only [hb, ky, ha, Expr.pos, hl]
  rfl
/-- name = {k: v for ..} on one line, the name a local -/
theorem ps_setDc {i : Nat} {y : Str} {py : Pos} {kx vx tg iter : Expr} {ifs : List Expr} {scope : Scope} {own : List (Str × Nat)} {pos spos : Pos} {wi : TI} {g : TG} {tt : TT} {tk tv : TE} (hc : X.calm = true) (hN : X.N.Nodup) (hy : X.N[i]? = some y) (hyl : X.env.scope.names.lookup y = some .local)
    (hsw : swapsWith (.DictComp kx vx [⟨tg, iter, ifs, 0⟩] scope pos) (some (.Name y py)) spos.line X.env = pure true) (hi : PI X tg iter wi) (ok : BlkOk X.N X.env.scope scope own)
    (hg : ∀ (s : Shared) (H : Hp) (C : Addr) (cl : List (Str × Addr)) (fp : List Addr), PG (X.blk s H scope (compEnvC scope cl C X.env) fp) tg g) (ht : ∀ (s : Shared) (H : Hp) (C : Addr) (cl : List (Str × Addr)) (fp : List Addr), PTs (X.blk s H scope (compEnvC scope cl C X.env) fp) ifs tt)
    (hk : ∀ (s : Shared) (H : Hp) (C : Addr) (cl : List (Str × Addr)) (fp : List Addr), PE (X.blk s H scope (compEnvC scope cl C X.env) fp) kx tk)
    (he : ∀ (s : Shared) (H : Hp) (C : Addr) (cl : List (Str × Addr)) (fp : List Addr), PE (X.blk s H scope (compEnvC scope cl C X.env) fp) vx tv) (hs : ∀ x, foldedSetIterable iter X.env x = pure x := by intro _; rfl) :
    PS X (.Assign [.Name y py] (.DictComp kx vx [⟨tg, iter, ifs, 0⟩] scope pos) spos) (tAsg (tDc wi g tt tk tv (own.map (·.2))) (gName i)) := by
  refine ⟨fun pins s σ H D I h => ?_⟩
  rw [exec_Assign_Name_used _ _ _ _ hsw]
  refine wpAny_bind (wpAny_standAt (wpAny_bind ?_))
  show wpAny _ X.A (do let _ ← comprehension (.DictComp kx vx [⟨tg, iter, ifs, 0⟩] scope pos) scope X.env _ newDict false (eval iter X.env) (some (assign (.Name y py) X.env))) _ _ s
  have h : tDc wi g tt tk tv (own.map (·.2)) σ H (fun x H1 => gName i x σ H1 D.nx) := h
  refine wpAny_bind (thn (dc_core (Qf := fun _ s' => SP X pins D .next s') hc hN I hi ok hg ht hk he hs h fun L C s' m H' I' q hn f => ?_) fun _ s' hq => wpAny_pure (wpAny_pure hq))
  show wpAny _ _ (assign (.Name y py) X.env (.ref L)) _ _ _
  refine wpAny_assign_Name (store_ok2 (v := V.ref L) I' hN hy (.inl hyl) rfl (fun s2 I2 ⟨a, sb, ha⟩ => ?_) (.inr hyl))
  obtain ⟨f0, f1, f2, f3, f4, f5⟩ := f
  have haC : C ≠ a := by
    rcases ha with z | z
    · rw [z]; exact f1
    · exact fun e => f4 y a z e.symm
  refine ⟨m, hn.sameBut sb haC, fun h3 sb3 => ?_⟩
  exact ⟨_, H', I2.turned (t' := s2.toks) (fun b o hb e => (sb3.2 b hb).trans e) f0 f1 f3 f4 f5, q⟩
end
end Gx
namespace Gx
open PySem PySem.Spec PyProof.Rows L2
/-- a statement that is never reached -/
def sNo : TS := fun _ _ _ => False
theorem ps_no {X : Cx} {st : Stmt} : PS X st sNo := ⟨fun _ _ _ _ _ _ h => h.elim⟩
theorem no {D : Ends} {σ : L2.St} {H : Hp} (h : False) : sNo D σ H := h
end Gx
namespace Gx
open PySem PySem.Spec PyProof.Rows L2
theorem gsub {to ti : TE} {t : TSet} {v : V} {σ : L2.St} {H : Hp} {Q : L2.St → Hp → Prop} (h : to σ H fun o H1 => ti σ H1 fun i H2 => t o i v H2 fun H3 => Q σ H3) : gSub to ti t v σ H Q := h
theorem neB {a b : Bool} {H : Hp} {Q : VK} (h : Q (.bl (a != b)) H) : rNe (.bl a) (.bl b) H Q := ⟨rfl, by
  have e : (!decide (V.bl a = V.bl b)) = (a != b) := by cases a <;> cases b <;> rfl
  rw [e]
  exact h⟩
theorem setL {p : Addr} {xs : List V} {k : Int} {j : Nat} {v : V} {H : Hp} {Q : Hp → Prop} (hp : H p = some (.lst xs)) (e : k = j) (l : j < xs.length) (h : Q (upd H p (.lst (xs.set j v)))) : rSetL (.ref p) (.int k) v H Q := ⟨p, xs, k, j, rfl, rfl, hp, by
  subst e
  unfold ixN
  simp [l], h⟩
end Gx
/-! ### enumerate(a tuple) -/
namespace Gx
open PySem PySem.Spec PyProof.Rows L2
open AutoSeq1 (wpAny_loadPart')
theorem meets_enum_tup (l : Addr) (items : Array Value) (n : Nat) (dct : Option Addr) (sl : Array (Option Value)) :
    Meets (Builtin.«enumerate.__new__» ⟨[.type "enumerate", .ref l], []⟩) (fun _ R s => s.heap.get? l = some { cls := .type "tuple", dict := dct, data := .seq items n, slots := sl } ∧
      R (.ok (.ret (.ref (s.heap.push { cls := .type "tuple_iterator", data := .fields #[.ref l, .int 0 0] }).objs.size)))
        { s with heap := (s.heap.push { cls := .type "tuple_iterator", data := .fields #[.ref l, .int 0 0] }).push { cls := .type "enumerate", data := .fields #[.none, .bool false, .ref s.heap.objs.size, rawInt 0, .none, .none] } }) :=
  .of_wp fun prog w A R s h => by
    obtain ⟨hp, g, d, tk, os⟩ := s; obtain ⟨hl, h⟩ := h
    have hsub := sub_enumerate
    have hL : Heap.IsTuple (Shared.heap ⟨hp, g, d, tk, os⟩) l items := ⟨_, hl, rfl, n, rfl⟩
    wp_walk using wpAny_loadPart' hl
    refine wpAny_stack_any fun st => wpAny_pure ?_
    split
    · rename_i c _ _ _ _ _
      cases (c == Value.type "enumerate")
      · wp_walk using wpAny_loadPart' hl, wpAny_pyIter_tuple hL
        exact ⟨_, rfl, h⟩
      · wp_walk using wpAny_loadPart' hl, wpAny_pyIter_tuple hL
        exact ⟨_, rfl, h⟩
    · wp_walk using wpAny_loadPart' hl, wpAny_pyIter_tuple hL
      exact ⟨_, rfl, h⟩
section
variable {prog : Program} {w : World} {A : Around} {E : Value → Shared → Prop} {s : Shared}
theorem call_enum_tup {l : Addr} {items : Array Value} {Q : Value → Shared → Prop} (hL : s.heap.IsTuple l items)
    (h : ∀ h', IsEnum h' (s.heap.objs.size + 1) s.heap.objs.size 0 .none → h'.IsTupleIter s.heap.objs.size l 0 → h'.objs.size = s.heap.objs.size + 2 →
      (∀ b o, s.heap.get? b = some o → h'.get? b = some o) → Q (.ref (s.heap.objs.size + 1)) { s with heap := h' }) :
    wpAny (model prog w) A (PySem.call (.type "enumerate") [.ref l]) Q E s := by
  obtain ⟨⟨c, dct, dt, sl⟩, hl, hc, n, hd⟩ := hL
  replace hc : c = .type "tuple" := hc
  replace hd : dt = .seq items n := hd
  subst hc hd
  refine callType_new F.called_enumerate (by decide) (F.typeCall_enumerate_1 _) (F.newCall_enumerate_1 _) (fun obj => F.args_object_init_2 obj _) F.entry_enumerate_new
    (meets_enum_tup l items n dct sl) ⟨hl, ?_⟩
  have hz : (s.heap.push { cls := .type "tuple_iterator", data := .fields #[.ref l, .int 0 0] }).objs.size = s.heap.objs.size + 1 := Heap.size_push ..
  show _ ∧ _
  rw [hz]
  have he : IsEnum ((s.heap.push { cls := .type "tuple_iterator", data := .fields #[.ref l, .int 0 0] }).push
      { cls := .type "enumerate", data := .fields #[.none, .bool false, .ref s.heap.objs.size, rawInt 0, .none, .none] }) (s.heap.objs.size + 1) s.heap.objs.size 0 .none := by
    have := Heap.get?_push_size (s.heap.push { cls := .type "tuple_iterator", data := .fields #[.ref l, .int 0 0] })
      (o := { cls := .type "enumerate", data := .fields #[.none, .bool false, .ref s.heap.objs.size, rawInt 0, .none, .none] }) rfl
    rw [hz] at this; exact this
  refine ⟨⟨_, he, rfl⟩, h _ he ⟨_, Heap.get?_push_of_some _ (Heap.get?_push_size _ rfl), rfl, rfl⟩ (by rw [Heap.size_push, hz]) fun b o x => Heap.get?_push_of_some _ (Heap.get?_push_of_some _ x)⟩
theorem draws_tup (hh : A.handled = none) (it t : Addr) (hne : t ≠ it) (items : Array Value) :
    Draws prog w A it [it, t] items.size (fun i v => items[i]? = some v) (fun i h => h.IsTupleIter it t i ∧ h.IsTuple t items) where
  live := fun i h st => let ⟨o, ho, _⟩ := st.1; ⟨o, ho⟩
  frame := fun i h h' st k => ⟨st.1.at fun o q => k it (by simp) o q, let ⟨o, ho, r⟩ := st.2; ⟨o, k t (by simp) o ho, r⟩⟩
  item := fun i s Q E hi st hQ => by
    refine PySem.wpAny_nextOf_tuple_item st.1 st.2 (x := items[i]) (by simp [hi]) fun h' n1 b1 => ?_
    exact hQ _ h' s.toks (by simp [hi]) ⟨n1, let ⟨o, ho, r⟩ := st.2; ⟨o, b1.extBut _ _ hne ho, r⟩⟩ b1
  done := fun s Q E st hE => PySem.wpAny_nextOf_tuple_end hh st.1 st.2 (by simp) fun h' e k o => hE h' e k o
end
/-- the tuple at a, each item in a new pair -/
def IteT (K : PySem.W.Frag) (a : Addr) : It :=
  ⟨fun i H => ∃ (xs : List V) (x : V), SqT K H a xs ∧ xs[i]? = some x, fun i H v H' => ∃ T x, v = .ref T ∧ H T = none ∧ H' = upd H T (.tup [.int (i : Nat), x]) ∧ ∀ xs, SqT K H a xs → xs[i]? = some x, fun i H => ∃ xs : List V, SqT K H a xs ∧ xs.length ≤ i⟩
theorem turn_enumT {P : Program} {w : World} {K : PySem.W.Frag} {elts : List Expr} {kk : Nat} {tpos : Pos} (a e it : Addr) :
    Turn P w K (.Tuple elts kk tpos) (IteT K a) [e, it] e (fun i h => (∃ old, IsEnum h e it ((i : Nat) : Int) old) ∧ h.IsTupleIter it a i ∧ e ≠ it) where
  mem := by simp
  obj := fun i h st b hb => by
    obtain ⟨⟨old, he⟩, ⟨o, ho, hc, hd⟩, _⟩ := st
    have e' : b = e ∨ b = it := by simpa using hb
    rcases e' with z | z
    · rw [z]; exact ⟨_, he, fun v q => nomatch q⟩
    · rw [z]; exact ⟨o, ho, fun v q => by rw [hd] at q; cases q⟩
  keep := fun i h h' st k => let ⟨⟨old, he⟩, hi, hne⟩ := st; ⟨⟨old, k e (by simp) _ he⟩, hi.at fun o q => k it (by simp) o q, hne⟩
  item := by
    intro X hP hw hK hc i pins s σ H E I hf st hg
    subst hP hw hK
    obtain ⟨⟨old, he⟩, hit, hne⟩ := st
    obtain ⟨xs, x, hq, hx⟩ := hg
    obtain ⟨its, rv, p, hz⟩ := I.tuple hq
    replace p : s.heap.IsTuple a its.toArray := p
    obtain ⟨u, hu, ru⟩ := rv.get hx
    have hel : e < s.heap.objs.size := Heap.lt_size he
    have hil : it < s.heap.objs.size := by obtain ⟨_, q, _⟩ := hit; exact Heap.lt_size q
    have hae : a ≠ e := fun z => by
      obtain ⟨o, ho, hcl, _⟩ := id p
      rw [z, he] at ho
      cases ho
      exact absurd (show Value.type "enumerate" = .type "tuple" from hcl) (by decide)
    have hai : a ≠ it := fun z => by
      obtain ⟨o, ho, hcl, _⟩ := id p
      obtain ⟨o', ho', hcl', _⟩ := id hit
      rw [z, ho'] at ho
      cases ho
      rw [hcl'] at hcl
      exact absurd hcl (by decide)
    have hlt : i < its.toArray.size := by
      have := (List.getElem?_eq_some_iff.mp hu).1
      simpa using this
    refine wpAny_pyNext_enum_itemD (draws_tup (A := X.A.in1) (I.ok.hd hc) it a hai its.toArray) he ⟨hit, p⟩ hlt hne (by simp; exact ⟨hne, Ne.symm hae⟩) fun u' h' tk hPx ho hst' hT hsz hk => ?_
    have eu : u' = u := by
      have h1 : its.toArray[i]? = some u' := hPx
      have h2 : its.toArray[i]? = some u := by simpa using hu
      rw [h1] at h2
      exact Option.some.inj h2
    subst eu
    refine ⟨_, rfl, wpAny_letOwnedTupleGo_enum (s := { s with heap := h', toks := tk + 1 }) ho fun h'' he' sb => ?_⟩
    have hT2 : h''.get? s.heap.objs.size = some { cls := .type "tuple", data := .seq #[.int i tk, u'] } := (sb.2 _ (Nat.ne_of_gt hel)).trans hT
    have new : ObjOk X.prog X.w (upd H s.heap.objs.size (.tup [.int (i : Nat), x])) h'' s.heap.objs.size (.tup [.int (i : Nat), x]) :=
      ⟨by show 2 ≤ sizeLine; decide, [.int i tk, u'], .cons ⟨_, rfl⟩ (.cons ru .nil), ⟨_, hT2, rfl, _, rfl⟩⟩
    have I1 : Inv X pins σ (upd H s.heap.objs.size (.tup [.int (i : Nat), x])) { s with heap := h'', toks := tk + 1 } :=
      I.turnedNew (ch := [e, it]) (fun b ob hb q => (sb.2 b (fun z => hb (by simp [z]))).trans (hk b ob (fun z => hb (by simp [z])) (fun z => hb (by simp [z])) q)) hf (Nat.le_refl _) new
    refine ⟨.ref s.heap.objs.size, _, I1, rfl, ⟨_, x, rfl, I.hok.fresh (Nat.le_refl _), rfl, fun ys hy => by rw [I.tuple_inj hy hq]; exact hx⟩, ⟨⟨u', ?_⟩, hst'.1.at fun o q => (sb.2 it (Ne.symm hne)).trans q, hne⟩, fun b hb => ?_⟩
    · have e1 : ((i + 1 : Nat) : Int) = (i : Int) + 1 := by omega
      rw [e1]; exact he'
    · have hb' : b < s.heap.objs.size := by
        have e' : b = e ∨ b = it := by simpa using hb
        rcases e' with z | z
        · rw [z]; exact hel
        · rw [z]; exact hil
      rw [upd_ne (Nat.ne_of_lt hb')]
      exact (hf b hb).1
  done := by
    intro X hP hw hK hc i pins s σ H E I hf st hg
    subst hP hw hK
    obtain ⟨⟨old, he⟩, hit, hne⟩ := st
    obtain ⟨xs, hq, hx⟩ := hg
    obtain ⟨its, rv, p, hz⟩ := I.tuple hq
    replace p : s.heap.IsTuple a its.toArray := p
    obtain ⟨f0, f1, f2, f3, f4, f5⟩ := hf it (by simp)
    have hl := rv.length
    have hai : a ≠ it := fun z => by
      obtain ⟨o, ho, hcl, _⟩ := id p
      obtain ⟨o', ho', hcl', _⟩ := id hit
      rw [z, ho'] at ho
      cases ho
      rw [hcl'] at hcl
      exact absurd hcl (by decide)
    have hT : s.TypeIs (.ref e) "enumerate" := ⟨_, he, rfl⟩
    unfold pyNext
    refine wpAny_bind (wpAny_attempt (wpAny_callSpecial?_slot (name := Str.ofString "__next__") hT F.slot_enumerate_next
      (wpAny_call_entry F.slot_enumerate_next hT F.entry_enumerate_next ?_ (F.args_enumerate_next_1 _))))
    show wpAny _ _ (field (.ref e) 2 >>= _) _ _ _
    refine wpAny_bind (wpAny_field he rfl (x := .ref it) rfl ?_)
    refine wpAny_bind (PySem.wpAny_nextOf_tuple_end (A := X.A.in1) (I.ok.hd hc) hit p (by simp; omega) fun h' y he' hx' => ?_)
    obtain ⟨o, ho, hcl⟩ := hx'
    refine wpAny_bind (wpAny_isInstance (T := "StopIteration") (b := true) ⟨o, ho, hcl⟩ isSubtype_stop ?_)
    exact wpAny_pure ⟨rfl, I.turned (t' := s.toks) (fun b o hb q => he' b o hb q) f0 f1 f3 f4 f5⟩
  self := fun A i s Q E st h => let ⟨⟨_, he⟩, _⟩ := st; wpAny_pyIter_enum he h
def iEnumT (K : PySem.W.Frag) (ta : TA) : TI := fun σ H R => ta σ H fun vs H1 => ∃ a xs, vs = [.ref a] ∧ SqT K H1 a xs ∧ R (IteT K a) H1
theorem pi_enumT {X : Cx} {e : Expr} {ta : TA} {p pos tpos : Pos} {elts : List Expr} {kk : Nat} (hg : Gl X "enumerate") (hm : X.mg "enumerate" = none) (ha : PA X [e] ta) (hs : starEach [e] X.env = [(false, eval e X.env)] := by rfl) :
    PI X (.Tuple elts kk tpos) (.Call (.Name "enumerate" p) [e] [] pos) (iEnumT X.K ta) := by
  refine ⟨fun pins s σ H R I h => ?_⟩
  refine Call_ (ld_blt I hg hm boot_enumerate (PyProof.Rows.callWith_type1 (thn (ha.run pos pins s σ H _ I h) fun us s1 ⟨vs, H1, I1, r1, q1⟩ => ?_) hs rfl))
  obtain ⟨a, xs, ex, hq, q⟩ := q1
  subst ex
  cases r1 with
  | cons r rr =>
    cases rr
    cases r
    obtain ⟨its, rv, p', hz⟩ := I1.tuple hq
    refine call_enum_tup (items := its.toArray) p' fun h' he hit hsz hk => wpAny_pyIter_enum he ?_
    have I2 : Inv X pins σ H1 { s1 with heap := h' } := I1.kept (t' := s1.toks) hk
    refine ⟨s1.heap.objs.size + 1, [s1.heap.objs.size + 1, s1.heap.objs.size], _, _, H1, rfl, I2, turn_enumT a (s1.heap.objs.size + 1) s1.heap.objs.size, ⟨⟨.none, he⟩, hit, Nat.succ_ne_self _⟩, fun b hb => ?_, q⟩
    have e' : b = s1.heap.objs.size + 1 ∨ b = s1.heap.objs.size := by simpa using hb
    have hle : s1.heap.objs.size ≤ b := by
      rcases e' with z | z
      · rw [z]; exact Nat.le_add_right _ _
      · rw [z]; exact Nat.le_refl _
    exact I1.fpOk hle (I1.hok.fresh hle)
theorem walk_enumT {K : PySem.W.Frag} {a : Addr} {xs : List V} : Walk (IteT K a) xs.length (fun H => SqT K H a xs) (YPair (fun i => some (.int (i : Nat))) (fun i => xs[i]?)) := by
  refine ⟨fun i _ hi q => ⟨xs, xs[i], q, by simp [hi]⟩, fun _ q => ⟨xs, q, Nat.le_refl _⟩, fun i H v H' _ q y => ?_⟩
  obtain ⟨T, x, h1, h2, h3, h4⟩ := y
  exact ⟨T, .int (i : Nat), x, h1, h2, h3, rfl, h4 xs q⟩
theorem ienumT {K : PySem.W.Frag} {ta : TA} {σ : L2.St} {H : Hp} {R : It → Hp → Prop} (h : ta σ H fun vs H1 => ∃ a xs, vs = [.ref a] ∧ SqT K H1 a xs ∧ R (IteT K a) H1) : iEnumT K ta σ H R := h
theorem iitems {td : TE} {σ : L2.St} {H : Hp} {R : It → Hp → Prop} (h : td σ H fun x H1 => ∃ d o kvs, x = .ref d ∧ H1 d = some (.frz o (.dK kvs)) ∧ R (Iti d o kvs) H1) : iItems td σ H R := h
theorem ikeys {td : TE} {σ : L2.St} {H : Hp} {R : It → Hp → Prop} (h : td σ H fun x H1 => ∃ d o, x = .ref d ∧ ((∃ kvs, H1 d = some (.frz o (.dK kvs)) ∧ R (Itk d o kvs) H1) ∨ ∃ kvs, H1 d = some (.frz o (.dT kvs)) ∧ R (Itkt d o kvs) H1)) : iKeys td σ H R := h
/-! ### list(d.values()) -/
def tListVals (te : TE) : TE := fun σ H Q => te σ H fun x H1 => ∃ (d : Addr) (kvs : List (Key × V)), x = .ref d ∧ H1 d = some (.dK kvs) ∧ ∀ p, H1 p = none → Q (.ref p) (upd H1 p (.lst (kvs.map (·.2))))
theorem pe_listVals {X : Cx} {e : Expr} {te : TE} {p apos cpos pos : Pos} (hc : X.calm = true) (he : PE X e te) (hg : Gl X "list") (hm : X.mg "list" = none) (hv : bootBuiltins "list" = some (.type "list")) (hbase : attributeBase e "values" X.env (eval e X.env) = eval e X.env := by rfl) (hline : (apos.endLine == cpos.line) = true := by rfl)
    (hs : starEach [.Call (.Attribute e "values" apos) [] [] cpos] X.env = (false, eval (.Call (.Attribute e "values" apos) [] [] cpos) X.env) :: starEach [] X.env := by rfl) :
    PE X (.Call (.Name "list" p) [.Call (.Attribute e "values" apos) [] [] cpos] [] pos) (tListVals te) := by
  refine ⟨fun pins s σ H Q I hq => ?_⟩
  refine wpAny_Call_Name_kw (ld_blt I hg hm hv ?_)
  refine PyProof.Rows.callWith_type1 ?_ hs rfl
  rw [hs]
  show wpAny _ _ (spliced ((false, eval (.Call (.Attribute e "values" apos) [] [] cpos) X.env) :: backTo pos (starEach [] X.env))) _ _ s
  refine Calls.spliced_cons ?_
  refine wpAny_Call_method (T := "dict") (id := "dict.values") hbase rfl hline F.plainAttrs_dict F.slot_dict_values F.type_dict_values (thn (he.run pins s σ H _ I hq) fun u s1 ⟨x, H1, I1, rx, d, kvs, ex, hd, q⟩ => ?_)
  subst ex
  obtain rfl : u = Value.ref d := rx
  obtain ⟨hz, hs0, vs, kv, hdo⟩ := I1.hok d _ hd
  obtain ⟨ep, hat⟩ := hdo.dictAt
  have lk : kvs.length = vs.length := Paired.length kv
  have I2 : Inv X pins σ H1 { s1 with heap := s1.heap.push { cls := .type "dict_values", data := .fields #[.ref d] } } := I1.kept (t' := s1.toks) fun b ob q => Heap.get?_push_of_some _ q
  refine ⟨hdo.typeIs, hdo.mapOf.noDict, ?_⟩
  show wpAny _ _ (callWith cpos (.builtin "dict.values") [.ref d] [] []) _ X.xe s1
  refine method_meetsIn F.slot_dict_values F.entry_dict_values rfl (PySem.evalArgs_none ⟨rfl, hdo.typeIs, F.args_dict_values_1 _, _, meets_dict_values (mixKind X.prog X.w) d hs0, ⟨vs, hdo⟩, ?_⟩)
  refine Calls.spliced_nil ?_
  refine PySem.W.kdl_call (PySem.W.kdl_values (knd := mixKind X.prog X.w) (kvs := vs) (ep := ep)) (I1.ok.hd hc) ⟨⟨_, Heap.get?_push_size _ rfl, rfl, rfl⟩, hat.push _⟩ (by rw [← lk]; exact hz) fun h' tk acc' c' hkeep hS hacc => ?_
  have hlv : (kvs.map (·.2)).length ≤ sizeLine := by rw [List.length_map]; exact hz
  refine ⟨.ref _, upd H1 _ (.lst (kvs.map (·.2))), I2.laid (t' := tk) hkeep (Nat.le_refl _) (show ObjOk X.prog X.w _ _ _ (.lst (kvs.map (·.2))) from ⟨hlv, acc'.toList, c', ?_, ?_⟩), rfl, q _ (I2.hok.fresh (Nat.le_refl _))⟩
  · have el : acc'.toList.length = acc'.size := by simp
    refine vals_of_at (by rw [List.length_map, el, hacc.1, lk]) fun j x w h1 h2 => ?_
    obtain ⟨k, hky⟩ := hacc.2 j w (by rw [← Array.getElem?_toList]; exact h2)
    rw [List.getElem?_map] at h1
    cases hkj : kvs[j]? with
    | none => rw [hkj] at h1; cases h1
    | some pk =>
      rw [hkj] at h1
      cases h1
      obtain ⟨qv, g1, g2, g3⟩ := LiI.paired_get kv hkj
      rw [hky] at g1
      cases g1
      exact g3
  · rw [Array.toArray_toList]; exact hS
end Gx
/-! ### f(e, .., k = v, ..) inside a try; len(set(ints)) -/
namespace Gx
open PySem PySem.Spec PyProof.Rows L2
section
variable {X : Cx} {CX : CXT} {k n : Nat} {f : Addr} {fd : FuncData} {ps ks : List Str} {sp : Sp} {E : L2.St → XK} {x : Str} {p pos : Pos} {e : Expr} {es : List Expr} {kws : List Keyword} {t tk : TA} {g : List Value → List Value → List Value} {gV : List V → List V → List V}
def tCallNS (n m : Nat) (sp : Sp) (gV : List V → List V → List V) (E : L2.St → XK) (t tk : TA) : TE := fun σ H Q => t σ H fun vs H1 => tk σ H1 fun zs H2 => vs.length = n ∧ zs.length = m ∧ sp (gV vs zs) H2 Q (E σ)
theorem pe_callNS (F : FnOk X.prog X.w X.K X.mg X.base CX k f fd ps sp) (hr : Room k X.A) (hg : Gl X x) (hm : X.mg x = some (.ref f)) (hk : PySem.W.keepIn X.K (.ref f) = true) (hb : KBn X.K fd ps n ks g gV) (hx : ∀ σ, PassesAt CX X σ (E σ))
    (ha : PA X (e :: es) t) (hkw : PK X kws tk) (hall : (backToKw pos (keywordEach kws X.env)).all (·.1.isSome) = true := by rfl) (hks : (backToKw pos (keywordEach kws X.env)).filterMap (·.1) = ks := by rfl)
    (hdb : (x == ("__debug__" : Str)) = false := by decide) (he : starEach (e :: es) X.env = (false, eval e X.env) :: starEach es X.env := by rfl)
    (hpl : ((backTo pos (starEach (e :: es) X.env)).any (·.1) || (backToKw pos (keywordEach kws X.env)).any (·.1.isNone)) = false := by rfl) :
    PE X (.Call (.Name x p) (e :: es) kws pos) (tCallNS n ks.length sp gV E t tk) := by
  refine ⟨fun pins s σ H Q I h => ?_⟩
  refine wpAny_Call_Name_kw (ld_glob I hg hm ?_ hdb)
  refine PySem.W.callWith_KW (h₀ := X.base) I.ok.mod.kin hk hall (thn (ha.run pos pins s σ H _ I h) fun us s1 ⟨vs, H1, I1, r, q⟩ => ?_) hpl he
  refine thn (hkw.run pos pins s1 σ H1 _ I1 q) fun ws s2 ⟨zs, H2, I2, rz, l1, l2, q2⟩ => ⟨I2.kIn, ?_⟩
  rw [hks]
  have r2 := hb.rel r rz
  refine wpAny_call (codeAny_mono (F.run X.A X.stack s2 H2 ⟨us, ks.zip ws⟩ (g us ws) (gV vs zs) Q (E σ) hr I2.env0 (hb.to s2 us ws I2.kIn (r.length.symm.trans l1) (rz.length.symm.trans l2)) r2 q2) fun r s' hq => ?_)
  cases r with
  | error e => exact hx σ pins H2 s2 e s' I2 hq
  | ok fl =>
    cases fl with
    | ret u => exact I2.after hq
    | next => exact False.elim hq
    | brk => exact False.elim hq
    | cont => exact False.elim hq
theorem callN {n m : Nat} {E : XK} {σ : L2.St} {H : Hp} {Q : VK} (h : t σ H fun vs H1 => tk σ H1 fun zs H2 => vs.length = n ∧ zs.length = m ∧ sp (gV vs zs) H2 Q E) : tCallN n m sp gV E t tk σ H Q := h
theorem callNS {n m : Nat} {σ : L2.St} {H : Hp} {Q : VK} (h : t σ H fun vs H1 => tk σ H1 fun zs H2 => vs.length = n ∧ zs.length = m ∧ sp (gV vs zs) H2 Q (E σ)) : tCallNS n m sp gV E t tk σ H Q := h
theorem kOfI (K : PySem.W.Frag) : ∀ {ns : List Int} {us : List Value}, Vals (ns.map V.int) us → PyProof.Rows.IntsAre us ns
  | [], _, .nil => .nil
  | n :: ns, _, .cons r t => by
    obtain ⟨k, rfl⟩ := r
    exact .cons n k (kOfI K t)
/-- len(set(xs)), xs a list of ints -/
def tLenSet (K : PySem.W.Frag) (ta : TE) : TE := fun σ H Q => ta σ H fun x H1 => ∃ (l : Addr) (ns : List Int), x = .ref l ∧ SqL K H1 l (ns.map V.int) ∧ ns.length ≤ 4000 ∧ Q (.int (ns.eraseDups.length : Nat)) H1
theorem pe_lenSet {X : Cx} {a : Expr} {ta : TE} {p p2 q pos : Pos} (hg : Gl X "len") (hm : X.mg "len" = none) (hg2 : Gl X "set") (hm2 : X.mg "set" = none) (ha : PE X a ta) (hc : X.calm = true := by rfl)
    (na : starEach [a] X.env = (false, eval a X.env) :: starEach [] X.env := by rfl) : PE X (.Call (.Name "len" p) [.Call (.Name "set" p2) [a] [] q] [] pos) (tLenSet X.K ta) := by
  refine ⟨fun pins s σ H Q I h => ?_⟩
  refine Call_ (ld_blt I hg hm boot_len ?_)
  refine PyProof.Rows.callWith_builtin1 (PyProof.Rows.args_cons ?_ rfl) rfl rfl
  refine Call_ (ld_blt I hg2 hm2 boot_set ?_)
  refine PyProof.Rows.callWith_type1 (PyProof.Rows.args_cons (thn (ha.run pins s σ H _ I h) fun v s1 ⟨x, H1, I1, r1, q1⟩ => PyProof.Rows.args_nil ?_) na) na rfl
  obtain ⟨l, ns, rfl, hq, hl, q1⟩ := q1
  cases r1
  obtain ⟨its, r, pl, hz⟩ := I1.list hq
  have hlen : its.toArray.size = ns.length := by rw [List.size_toArray, ← r.length, List.length_map]
  refine call_set_list (I1.ok.hd hc) pl.isList (by simpa using kOfI X.K r) (by rw [hlen]; unfold scanBound; omega) fun h' tk hS hk => ?_
  refine PyProof.Rows.args_nil ?_
  rw [hlen, PySem.W.oss_met ns, PySem.W.oss_dups] at hS
  obtain ⟨o, es, ep, t, ho, hex, hd, _, _, _, hf, hn⟩ := hS
  have I2 : Inv X pins σ H1 { s1 with heap := h', toks := tk } := I1.kept fun b o e => hk b o (Heap.lt_size e) e
  have hle : ns.eraseDups.length ≤ ns.length := by rw [← PySem.W.oss_dups]; exact PySem.W.oss_len ns
  exact call_len_set ho hex hd hf (by rw [hn] <;> omega) ⟨.int ns.eraseDups.length, H1, I2.tok _, ⟨_, by rw [hn]⟩, q1⟩
theorem lenSet {K : PySem.W.Frag} {σ : L2.St} {H : Hp} {Q : VK} {ta : TE} (h : ta σ H fun x H1 => ∃ (l : Addr) (ns : List Int), x = .ref l ∧ SqL K H1 l (ns.map V.int) ∧ ns.length ≤ 4000 ∧ Q (.int (ns.eraseDups.length : Nat)) H1) : tLenSet K ta σ H Q := h
theorem listVals {σ : L2.St} {H : Hp} {Q : VK} {te : TE} (h : te σ H fun x H1 => ∃ (d : Addr) (kvs : List (Key × V)), x = .ref d ∧ H1 d = some (.dK kvs) ∧ ∀ p, H1 p = none → Q (.ref p) (upd H1 p (.lst (kvs.map (·.2))))) : tListVals te σ H Q := h
end
/-- a dict made over a walk -/
theorem dc_it {J : It} {n : Nat} {G : Hp → Prop} {Y : Nat → Hp → V → Hp → Prop} (w : Walk J n G Y) {g : TG} {tt : TT} {tk tv : TE} {vs : List Nat} {σ : L2.St} {H1 : Hp} {D : Addr} {Qd : Hp → Prop} (Pv : Nat → Hp → Prop) (h0 : Pv 0 (upd H1 D (.dK []))) (hG : ∀ i H, i ≤ n → Pv i H → G H)
    (hs : ∀ i x H H', i < n → Pv i H → Y i H x H' → g x (wipe σ vs) H' fun σ2 H2 => wipe σ2 vs = wipe σ vs ∧ tt σ2 H2 fun b H3 =>
      if b = true then tk σ2 H3 fun y H4 => tv σ2 H4 fun z H5 => ∃ kvs k, y = kV k ∧ H5 D = some (.dK kvs) ∧ kvs.length < sizeLine ∧ Pv (i + 1) (upd H5 D (.dK (putK kvs k z))) else Pv (i + 1) H3) (hd : ∀ H, Pv n H → Qd H) :
    ∃ W : Nat → Nat → Hp → Prop, (∃ m, W 0 m (upd H1 D (.dK []))) ∧ ∀ i m H, W i m H →
      (J.stop i H ∧ Qd H) ∨ (J.go i H ∧ ∃ Nx : Hp → Prop, (∀ H', Nx H' → ∃ m', m' < m ∧ W (i + 1) m' H') ∧ ∀ x H', J.yld i H x H' → g x (wipe σ vs) H' fun σ2 H2 => wipe σ2 vs = wipe σ vs ∧ tt σ2 H2 fun b H3 =>
        if b = true then tk σ2 H3 fun y H4 => tv σ2 H4 fun z H5 => ∃ kvs k, y = kV k ∧ H5 D = some (.dK kvs) ∧ kvs.length < sizeLine ∧ Nx (upd H5 D (.dK (putK kvs k z))) else Nx H3) := by
  refine ⟨fun i m H => m = n - i ∧ i ≤ n ∧ Pv i H, ⟨n, by simp, Nat.zero_le _, h0⟩, ?_⟩
  rintro i m H ⟨rfl, hi, p⟩
  have q := hG i H hi p
  by_cases hlt : i < n
  · refine .inr ⟨w.goes i H hlt q, Pv (i + 1), fun H' p' => ⟨n - (i + 1), by omega, rfl, hlt, p'⟩, fun x H' y => hs i x H H' hlt p (w.yields i H x H' hlt q y)⟩
  · have e : i = n := by omega
    subst e
    exact .inl ⟨w.stops H q, hd H p⟩
theorem and2T {p1 p2 : Prop} [Decidable p1] [Decidable p2] {tb : TT} {σ : L2.St} {H : Hp} {Q : Bool → Hp → Prop} (hb : p1 → ∀ Q' : Bool → Hp → Prop, Q' (decide p2) H → tb σ H Q') (h : Q (decide (p1 ∧ p2)) H) : if decide p1 = true then tb σ H Q else Q false H := by
  by_cases h1 : p1
  · rw [decide_eq_true h1]
    refine hb h1 _ ?_
    rw [show decide (p1 ∧ p2) = decide p2 from decide_eq_decide.mpr ⟨fun h => h.2, fun h => ⟨h1, h⟩⟩] at h
    exact h
  · rw [decide_eq_false h1]
    rw [show decide (p1 ∧ p2) = false from decide_eq_false fun z => h1 z.1] at h
    exact h
theorem iteV {p : Prop} [Decidable p] {ta tb : TE} {v : V} {σ : L2.St} {H : Hp} {Q : VK} (h1 : p → ∀ Q' : VK, Q' v H → ta σ H Q') (h2 : ¬ p → ∀ Q' : VK, Q' v H → tb σ H Q') (h : Q v H) : if decide p = true then ta σ H Q else tb σ H Q := by
  by_cases hp : p
  · rw [decide_eq_true hp]; exact h1 hp _ h
  · rw [decide_eq_false hp]; exact h2 hp _ h
theorem _root_.L2.DGet.f {H : Hp} {a : Addr} {o : Obj} {kvs : List (Key × V)} {k : Key} (e : H a = some (.frz o (.dK kvs))) : DGet H a (kV k) (valV kvs k) := .inl ⟨kvs, k, .inr ⟨o, e⟩, rfl, rfl⟩
theorem catA {K : PySem.W.Frag} {H : Hp} {Q : VK} {a b : Addr} {xs ys : List V} (ha : SqT K H a xs) (hb : SqT K H b ys) (l : xs.length + ys.length ≤ 16777216) (q : ∀ p H', Same H H' → SqT K H' p (xs ++ ys) → Q (.ref p) H') : rCatA K (.ref a) (.ref b) H Q :=
  ⟨a, b, xs, ys, rfl, rfl, ha, hb, by rw [sizeLine_eq]; exact l, fun e => q b H (Same.refl H) (by rw [e]; exact hb), fun _ e => q a H (Same.refl H) (by rw [e, List.append_nil]; exact ha), fun _ _ p np => q p _ (ext1 np).same (SqT.of upd_same)⟩
theorem slA {K : PySem.W.Frag} {H : Hp} {Q : VK} {a : Addr} {xs : List V} {lo hi : Option Int} (ha : SqT K H a xs) (q : ∀ p H', Same H H' → SqT K H' p (cutV xs lo hi) → Q (.ref p) H') : rSlA K (.ref a) lo hi H Q :=
  ⟨a, xs, rfl, ha, fun e => q a H (Same.refl H) (by unfold cutV; rw [e.1, e.2, List.drop_zero, Nat.sub_zero, List.take_length]; exact ha), fun _ p np => q p _ (ext1 np).same (SqT.of upd_same)⟩
theorem gtup {K : PySem.W.Frag} {n : Nat} {t : TGs} {v : V} {σ : L2.St} {H : Hp} {Q : L2.St → Hp → Prop} (h : ∃ a xs, v = .ref a ∧ SqT K H a xs ∧ xs.length = n ∧ t xs σ H Q) : gTup K n t v σ H Q := h
theorem gcons {t : TG} {u : TGs} {x : V} {xs : List V} {σ : L2.St} {H : Hp} {Q : L2.St → Hp → Prop} (h : t x σ H fun σ' H' => u xs σ' H' Q) : gCons t u (x :: xs) σ H Q := ⟨x, xs, rfl, h⟩
theorem gnil {σ : L2.St} {H : Hp} {Q : L2.St → Hp → Prop} (h : Q σ H) : gNil [] σ H Q := ⟨rfl, h⟩
theorem edups_snoc (l : List Int) (a : Int) : (l ++ [a]).eraseDups = if a ∈ l.eraseDups then l.eraseDups else l.eraseDups ++ [a] := by
  rw [← PySem.W.oss_dups, ← PySem.W.oss_dups, PySem.W.oss_next]
theorem edups_mem {l : List Int} {a : Int} : a ∈ l.eraseDups ↔ a ∈ l := by rw [← PySem.W.oss_dups]; exact PySem.W.oss_has
theorem edups_le (l : List Int) : l.eraseDups.length ≤ l.length := by rw [← PySem.W.oss_dups]; exact PySem.W.oss_len l
theorem edups_rev : ∀ l : List Int, (l.reverse).eraseDups.length = l.length ↔ l.Nodup
  | [] => ⟨fun _ => List.nodup_nil, fun _ => rfl⟩
  | a :: l => by
    have ih := edups_rev l
    have h1 := edups_le l.reverse
    rw [List.length_reverse] at h1
    rw [List.reverse_cons, edups_snoc, List.nodup_cons, List.length_cons]
    have e : a ∈ l.reverse.eraseDups ↔ a ∈ l := by rw [edups_mem, List.mem_reverse]
    by_cases h : a ∈ l
    · rw [if_pos (e.mpr h)]
      exact ⟨fun z => by omega, fun z => absurd h z.1⟩
    · rw [if_neg (fun z => h (e.mp z)), List.length_append, List.length_singleton]
      exact ⟨fun z => ⟨h, ih.mp (by omega)⟩, fun z => by rw [ih.mpr z.2]⟩
theorem edups_nodup {l : List Int} : l.eraseDups.length = l.length ↔ l.Nodup := by
  have h := edups_rev l.reverse
  rw [List.reverse_reverse, List.length_reverse] at h
  refine h.trans ?_
  unfold List.Nodup
  rw [List.pairwise_reverse]
  exact ⟨fun z => z.imp fun w => w.symm, fun z => z.imp fun w => w.symm⟩
end Gx
local macro_rules | `(tactic| walk_at "side") => `(tactic| first | assumption | omega | exact Gx.cmulR (by omega) (by omega) | exact Gx.cmulL (by omega) (by omega) | exact Gx.cdiv (by omega) (by omega) | exact Gx.cpow (by omega) (by omega) (by omega) | exact Gx.line (by omega) | exact Gx.lineL (by omega) | (simp only [List.length_append, List.length_take, List.length_drop, List.length_cons, List.length_nil, List.length_map, List.length_range, List.length_reverse]; omega) | exact Int.emod_nonneg _ (by omega) | exact Int.emod_lt_of_pos _ (by omega))
local macro_rules | `(tactic| walk_at "hp") => `(tactic| first | assumption | exact upd_same | exact SqL.of (by assumption) | exact SqT.of (by assumption) | exact SqL.of upd_same | exact SqT.of upd_same)
local macro_rules | `(tactic| walk_at "g1") => `(tactic| first
  | with_reducible refine Gx.seq ?_ | with_reducible refine Gx.nx ?_ | with_reducible refine Gx.asg ?_ | with_reducible refine Gx.op ?_
  | ((with_reducible refine' Gx.var ?ka ?kb); (case ka => exact rfl))
  | walk_at "con"
  | with_reducible refine Gx.con ?_ | with_reducible refine Gx.i0 ?_
  | ((with_reducible refine' Gx.i1 ?ka ?kb); (case ka => walk_at "side"))
  | with_reducible refine Gx.eqM ?_ | with_reducible refine Gx.neM ?_
  | with_reducible refine Gx.eqI ?_ | with_reducible refine Gx.eqS ?_ | with_reducible refine Gx.neI ?_ | with_reducible refine Gx.neS ?_ | with_reducible refine Gx.eqB ?_ | with_reducible refine Gx.isB ?_
  | ((with_reducible refine Gx.name ?_); try dsimp only [List.set])
  | with_reducible refine Gx.exb ?_ | with_reducible refine Gx.exi ?_ | with_reducible refine Gx.exs ?_ | with_reducible refine Gx.exr ?_
  | with_reducible refine Gx.test ?_ | with_reducible refine Gx.tB ?_ | with_reducible refine Gx.cb ?_ | with_reducible refine Gx.acons ?_ | with_reducible refine Gx.anil ?_
  | with_reducible refine Gx.call ?_ | with_reducible refine Gx.call0 ?_ | with_reducible refine Gx.callS ?_
  | with_reducible refine Gx.ifs ?_ | with_reducible refine Gx.ret ?_ | with_reducible refine Gx.rt ?_ | with_reducible refine Gx.next ?_ | with_reducible refine Gx.drop ?_
  | with_reducible refine Gx.not ?_ | with_reducible refine Gx.and ?_ | with_reducible refine Gx.or ?_ | with_reducible refine Gx.notV ?_ | with_reducible refine Gx.andV ?_ | with_reducible refine Gx.orV ?_ | with_reducible refine Gx.ifE ?_
  | with_reducible refine Gx.itT ?_ | with_reducible refine Gx.itF ?_ | with_reducible refine Gx.itNF ?_ | with_reducible refine Gx.itNT ?_ | with_reducible refine Gx.ittt ?_ | with_reducible refine Gx.itff ?_ | with_reducible refine Gx.itNtt ?_ | with_reducible refine Gx.itNff ?_
  | with_reducible refine Gx.sl ?_ | with_reducible refine Gx.nopart ?_ | with_reducible refine Gx.part ?_
  | ((with_reducible refine' Gx.sA ?ka ?kc ?kb); (case ka => walk_at "side"); (case kc => walk_at "side")) | ((with_reducible refine' Gx.sB ?ka ?kc ?kb); (case ka => walk_at "side"); (case kc => walk_at "side"))
  | ((with_reducible refine' Gx.sC ?ka ?kd ?kc ?kb); (case ka => walk_at "side"); (case kc => walk_at "side"); (case kd => walk_at "side"))
  | ((with_reducible refine' Gx.addM ?ka ?kb); (case ka => walk_at "side")) | ((with_reducible refine' Gx.lenM ?ka ?kb); (case ka => walk_at "side"))
  | ((with_reducible refine' Gx.ixM ?ka ?kd ?kc ?kb); (case ka => walk_at "side"); (case kc => walk_at "side"); (case kd => walk_at "side"))
  | with_reducible refine Gx.isNn ?_ | with_reducible refine Gx.isNi ?_ | with_reducible refine Gx.isNs ?_ | with_reducible refine Gx.isNb ?_ | with_reducible refine Gx.isNr ?_ | with_reducible refine Gx.notNn ?_ | with_reducible refine Gx.notNi ?_ | with_reducible refine Gx.notNs ?_ | with_reducible refine Gx.notNb ?_ | with_reducible refine Gx.notNr ?_
  | with_reducible refine Gx.sfld ?_ | with_reducible refine Gx.meth ?_ | with_reducible refine Gx.make ?_
  | with_reducible refine Gx.isi_ni ?_ | with_reducible refine Gx.isi_nb ?_ | with_reducible refine Gx.isi_ns ?_ | with_reducible refine Gx.isi_nl ?_ | with_reducible refine Gx.isi_nt ?_ | with_reducible refine Gx.isi_ii ?_
  | with_reducible refine Gx.isi_ib ?_ | with_reducible refine Gx.isi_is ?_ | with_reducible refine Gx.isi_il ?_ | with_reducible refine Gx.isi_it ?_ | with_reducible refine Gx.isi_si ?_ | with_reducible refine Gx.isi_sb ?_
  | with_reducible refine Gx.isi_ss ?_ | with_reducible refine Gx.isi_sl ?_ | with_reducible refine Gx.isi_st ?_ | with_reducible refine Gx.isi_bi ?_ | with_reducible refine Gx.isi_bb ?_ | with_reducible refine Gx.isi_bs ?_
  | with_reducible refine Gx.isi_bl ?_ | with_reducible refine Gx.isi_bt ?_ | ((with_reducible refine' Gx.isi_Li ?ka ?kb); (case ka => walk_at "hp")) | ((with_reducible refine' Gx.isi_Lb ?ka ?kb); (case ka => walk_at "hp")) | ((with_reducible refine' Gx.isi_Ls ?ka ?kb); (case ka => walk_at "hp")) | ((with_reducible refine' Gx.isi_Ll ?ka ?kb); (case ka => walk_at "hp"))
  | ((with_reducible refine' Gx.isi_Lt ?ka ?kb); (case ka => walk_at "hp")) | ((with_reducible refine' Gx.isi_Ti ?ka ?kb); (case ka => walk_at "hp")) | ((with_reducible refine' Gx.isi_Tb ?ka ?kb); (case ka => walk_at "hp")) | ((with_reducible refine' Gx.isi_Ts ?ka ?kb); (case ka => walk_at "hp")) | ((with_reducible refine' Gx.isi_Tl ?ka ?kb); (case ka => walk_at "hp")) | ((with_reducible refine' Gx.isi_Tt ?ka ?kb); (case ka => walk_at "hp"))
  | with_reducible refine Gx.strB ?_ | with_reducible refine Gx.prop ?_ | with_reducible refine Gx.callO ?_ | with_reducible refine Gx.methS ?_
  | with_reducible refine Gx.fld ?_ | with_reducible refine Gx.m1 ?_ | with_reducible refine Gx.isS ?_
  | ((with_reducible refine' Gx.slS ?ka ?kb); (case ka => walk_at "side"))
  | with_reducible refine Gx.un ?_ | with_reducible refine Gx.iu ?_
  | ((with_reducible refine' Gx.aug ?ka ?kb); (case ka => exact rfl)) | ((with_reducible refine Gx.ipi ?_); try dsimp only [List.set])
  | ((with_reducible refine' Gx.addS ?ka ?kb); (case ka => walk_at "side")) | ((with_reducible refine' Gx.lenS ?ka ?kb); (case ka => walk_at "side"))
  | ((with_reducible refine' Gx.lenLm ?ka ?kb); (case ka => walk_at "hp")) | ((with_reducible refine' Gx.lenTm ?ka ?kb); (case ka => walk_at "hp"))
  | ((with_reducible refine' Gx.ixLI ?ka ?kc ?kd ?kb); (case ka => walk_at "hp"); (case kc => walk_at "side"); (case kd => walk_at "side"))
  | ((with_reducible refine' Gx.ixT ?ka ?kc ?kb); (case ka => walk_at "hp"); (case kc => rfl))
  | ((with_reducible refine' Gx.lenL ?ka ?kb); (case ka => walk_at "hp")) | ((with_reducible refine' Gx.lenT ?ka ?kb); (case ka => walk_at "hp"))
  | with_reducible refine Gx.abs ?_ | with_reducible refine Gx.min2 ?_ | with_reducible refine Gx.max2 ?_ | with_reducible refine Gx.int1 ?_
  | with_reducible refine Gx.bm ?_ | with_reducible refine Gx.bm0 ?_ | ((with_reducible refine' Gx.tyL ?ka ?kb); (case ka => walk_at "hp"))
  | ((with_reducible refine' Gx.appI ?ka ?kc ?kb); (case ka => walk_at "hp"); (case kc => walk_at "side")) | ((with_reducible refine' Gx.appS ?ka ?kc ?kb); (case ka => walk_at "hp"); (case kc => walk_at "side")) | ((with_reducible refine' Gx.appR ?ka ?kc ?kb); (case ka => walk_at "hp"); (case kc => walk_at "side"))
  | ((with_reducible refine' Gx.app ?ka ?kc ?kb); (case ka => walk_at "hp"); (case kc => walk_at "side"))
  | with_reducible refine Gx.for_ ?_ | with_reducible refine Gx.rng1 ?_ | with_reducible refine Gx.rng2 ?_ | with_reducible refine Gx.ilst ?_ | with_reducible refine Gx.itup ?_ | with_reducible refine Gx.lc ?_ | with_reducible refine Gx.yes ?_
  | with_reducible refine Gx.isq ?_ | with_reducible refine Gx.din ?_ | with_reducible refine Gx.dnotin ?_ | with_reducible refine Gx.dget ?_ | with_reducible refine Gx.dput ?_ | with_reducible refine Gx.dnewK ?_ | with_reducible refine Gx.disp1 ?_ | with_reducible refine Gx.nin ?_ | with_reducible refine Gx.nnotin ?_ | with_reducible refine Gx.nget ?_ | with_reducible refine Gx.nput ?_ | with_reducible refine Gx.nnew ?_ | with_reducible refine Gx.dc ?_ | with_reducible refine Gx.kget ?_ | with_reducible refine Gx.ndisp ?_ | with_reducible refine Gx.izn ?_ | with_reducible refine Gx.inK ?_ | with_reducible refine Gx.inSg ?_ | with_reducible refine Gx.notInSg ?_ | with_reducible refine Gx.gsub ?_ | with_reducible refine Gx.neB ?_ | with_reducible refine Gx.istr ?_ | with_reducible refine Gx.boolB ?_ | with_reducible refine Gx.intB ?_ | with_reducible refine Gx.gtup ?_ | with_reducible refine Gx.gcons ?_ | with_reducible refine Gx.gnil ?_ | with_reducible refine Gx.ienumT ?_ | with_reducible refine Gx.iitems ?_ | with_reducible refine Gx.ikeys ?_ | with_reducible refine Gx.callN ?_ | with_reducible refine Gx.callNS ?_ | with_reducible refine Gx.lenSet ?_ | with_reducible refine Gx.listVals ?_
  | with_reducible refine Gx.tup ?_ | with_reducible refine Gx.lst ?_ | with_reducible refine Gx.retN ?_ | with_reducible refine Gx.brk ?_ | with_reducible refine Gx.cont ?_ | with_reducible refine Gx.bk ?_ | with_reducible refine Gx.ct ?_)
local macro_rules | `(tactic| walk_at "g") => `(tactic| repeat walk_at "g1")
namespace K39
open PySem PySem.Spec PyProof.Rows L2
def topS (i : Nat) : Stmt := PySem.Challenge.pw_textsputback_k39_pieces_that_stay.main.body.getD i (.Pass ⟨0, 0, 0, 0⟩)
theorem bt_ValueError : bootBuiltins "ValueError" = some (.type "ValueError") := by decide +kernel
theorem bt_abs : bootBuiltins "abs" = some (.builtin "abs") := by decide +kernel
theorem bt_any : bootBuiltins "any" = some (.builtin "any") := by decide +kernel
theorem bt_bool : bootBuiltins "bool" = some (.type "bool") := by decide +kernel
theorem bt_int : bootBuiltins "int" = some (.type "int") := by decide +kernel
theorem bt_isinstance : bootBuiltins "isinstance" = some (.builtin "isinstance") := by decide +kernel
theorem bt_len : bootBuiltins "len" = some (.builtin "len") := by decide +kernel
theorem bt_list : bootBuiltins "list" = some (.type "list") := by decide +kernel
theorem bt_max : bootBuiltins "max" = some (.builtin "max") := by decide +kernel
theorem bt_set : bootBuiltins "set" = some (.type "set") := by decide +kernel
theorem bt_sorted : bootBuiltins "sorted" = some (.builtin "sorted") := by decide +kernel
theorem bt_tuple : bootBuiltins "tuple" = some (.type "tuple") := by decide +kernel
abbrev s_ranks_of : Stmt := topS 4
theorem st_ranks_of {x0 x1 : V} : L2.start ["alignment", "falling", "ranks", "at", "old", "olds"] [x0, x1] = [some x0, some x1, none, none, none, none] := rfl
theorem sc_ranks_of : FnScope ["alignment", "falling", "ranks", "at", "old", "olds"] ["alignment", "falling"] (defScope s_ranks_of) := ⟨rfl, rfl, rfl, by decide +kernel, rfl, by decide +kernel, by decide +kernel⟩
abbrev s_staying : Stmt := topS 5
theorem st_staying {x0 x1 : V} : L2.start ["alignment", "falling", "ranks", "rows", "before", "at", "number", "run", "last", "row"] [x0, x1] = [some x0, some x1, none, none, none, none, none, none, none, none] := rfl
theorem sc_staying : FnScope ["alignment", "falling", "ranks", "rows", "before", "at", "number", "run", "last", "row"] ["alignment", "falling"] (defScope s_staying) := ⟨rfl, rfl, rfl, by decide +kernel, rfl, by decide +kernel, by decide +kernel⟩
abbrev s__law_mix : Stmt := topS 7
theorem st__law_mix {x0 x1 : V} : L2.start ["cell", "k", "first", "second"] [x0, x1] = [some x0, some x1, none, none] := rfl
theorem sc__law_mix : FnScope ["cell", "k", "first", "second"] ["cell", "k"] (defScope s__law_mix) := ⟨rfl, rfl, rfl, by decide +kernel, rfl, by decide +kernel, by decide +kernel⟩
abbrev s__law_stream : Stmt := topS 8
theorem st__law_stream {x0 x1 : V} : L2.start ["script", "many", "rest", "found", "k", "cell"] [x0, x1] = [some x0, some x1, none, none, none, none] := rfl
theorem sc__law_stream : FnScope ["script", "many", "rest", "found", "k", "cell"] ["script", "many"] (defScope s__law_stream) := ⟨rfl, rfl, rfl, by decide +kernel, rfl, by decide +kernel, by decide +kernel⟩
abbrev s__law_pick : Stmt := topS 9
theorem st__law_pick {x0 x1 x2 : V} : L2.start ["numbers", "at", "many"] [x0, x1, x2] = [some x0, some x1, some x2] := rfl
theorem sc__law_pick : FnScope ["numbers", "at", "many"] ["numbers", "at", "many"] (defScope s__law_pick) := ⟨rfl, rfl, rfl, by decide +kernel, rfl, by decide +kernel, by decide +kernel⟩
abbrev s__law_wide : Stmt := topS 10
theorem st__law_wide {x0 x1 x2 : V} : L2.start ["numbers", "at", "many"] [x0, x1, x2] = [some x0, some x1, some x2] := rfl
theorem sc__law_wide : FnScope ["numbers", "at", "many"] ["numbers", "at", "many"] (defScope s__law_wide) := ⟨rfl, rfl, rfl, by decide +kernel, rfl, by decide +kernel, by decide +kernel⟩
abbrev s__law_order : Stmt := topS 11
theorem st__law_order {x0 x1 x2 : V} : L2.start ["numbers", "many", "way", "found", "k", "spot"] [x0, x1, x2] = [some x0, some x1, some x2, none, none, none] := rfl
theorem sc__law_order : FnScope ["numbers", "many", "way", "found", "k", "spot"] ["numbers", "many", "way"] (defScope s__law_order) := ⟨rfl, rfl, rfl, by decide +kernel, rfl, by decide +kernel, by decide +kernel⟩
abbrev s__law_items : Stmt := topS 12
theorem st__law_items {x0 : V} : L2.start ["numbers", "many", "holes", "step", "found", "rank"] [x0] = [some x0, none, none, none, none, none] := rfl
theorem sc__law_items : FnScope ["numbers", "many", "holes", "step", "found", "rank"] ["numbers"] (defScope s__law_items) := ⟨rfl, rfl, rfl, by decide +kernel, rfl, by decide +kernel, by decide +kernel⟩
abbrev s__law_bent : Stmt := topS 13
theorem st__law_bent {x0 x1 x2 : V} : L2.start ["items", "numbers", "at", "way", "new", "k"] [x0, x1, x2] = [some x0, some x1, some x2, none, none, none] := rfl
theorem sc__law_bent : FnScope ["items", "numbers", "at", "way", "new", "k"] ["items", "numbers", "at"] (defScope s__law_bent) := ⟨rfl, rfl, rfl, by decide +kernel, rfl, by decide +kernel, by decide +kernel⟩
abbrev s__law_valid : Stmt := topS 14
theorem st__law_valid {x0 : V} : L2.start ["items", "taken", "item"] [x0] = [some x0, none, none] := rfl
theorem sc__law_valid : FnScope ["items", "taken", "item"] ["items"] (defScope s__law_valid) := ⟨rfl, rfl, rfl, by decide +kernel, rfl, by decide +kernel, by decide +kernel⟩
abbrev s__law_ascends : Stmt := topS 15
theorem st__law_ascends {x0 : V} : L2.start ["numbers", "k"] [x0] = [some x0, none] := rfl
theorem sc__law_ascends : FnScope ["numbers", "k"] ["numbers"] (defScope s__law_ascends) := ⟨rfl, rfl, rfl, by decide +kernel, rfl, by decide +kernel, by decide +kernel⟩
abbrev s__law_longest : Stmt := topS 16
theorem st__law_longest {x0 : V} : L2.start ["numbers", "best", "k", "j"] [x0] = [some x0, none, none, none] := rfl
theorem sc__law_longest : FnScope ["numbers", "best", "k", "j"] ["numbers"] (defScope s__law_longest) := ⟨rfl, rfl, rfl, by decide +kernel, rfl, by decide +kernel, by decide +kernel⟩
abbrev s__law_places : Stmt := topS 17
theorem st__law_places {x0 x1 : V} : L2.start ["row", "taken", "place"] [x0, x1] = [some x0, some x1, none] := rfl
theorem sc__law_places : FnScope ["row", "taken", "place"] ["row", "taken"] (defScope s__law_places) := ⟨rfl, rfl, rfl, by decide +kernel, rfl, by decide +kernel, by decide +kernel⟩
abbrev s__law_stays : Stmt := topS 18
theorem st__law_stays {x0 x1 x2 : V} : L2.start ["items", "down", "told", "sign", "taken", "k", "run", "members", "row"] [x0, x1, x2] = [some x0, some x1, some x2, none, none, none, none, none, none] := rfl
theorem sc__law_stays : FnScope ["items", "down", "told", "sign", "taken", "k", "run", "members", "row"] ["items", "down", "told"] (defScope s__law_stays) := ⟨rfl, rfl, rfl, by decide +kernel, rfl, by decide +kernel, by decide +kernel⟩
abbrev s__law_refused : Stmt := topS 19
theorem st__law_refused {x0 x1 : V} : L2.start ["items", "way", "e"] [x0, x1] = [some x0, some x1, none] := rfl
theorem sc__law_refused : FnScope ["items", "way", "e"] ["items", "way"] (defScope s__law_refused) := ⟨rfl, rfl, rfl, by decide +kernel, rfl, by decide +kernel, by decide +kernel⟩
abbrev s__law_answers : Stmt := topS 20
theorem st__law_answers {x0 : V} : L2.start ["items", "way"] [x0] = [some x0, none] := rfl
theorem sc__law_answers : FnScope ["items", "way"] ["items"] (defScope s__law_answers) := ⟨rfl, rfl, rfl, by decide +kernel, rfl, by decide +kernel, by decide +kernel⟩
abbrev s_law : Stmt := topS 21
theorem st_law {x0 : V} : L2.start ["script", "numbers", "items", "turn"] [x0] = [some x0, none, none, none] := rfl
theorem sc_law : FnScope ["script", "numbers", "items", "turn"] ["script"] (defScope s_law) := ⟨rfl, rfl, rfl, by decide +kernel, rfl, by decide +kernel, by decide +kernel⟩
structure Txt (K : PySem.W.Frag) (mg : Str → Option Value) (w : World) where
  a_LensError : Addr
  g_LensError : mg "LensError" = some (.ref a_LensError)
  k_LensError : PySem.W.keepIn K (.ref a_LensError) = true
  x_LensError : PySem.W.excIn K a_LensError [.type "ValueError", .type "Exception", .type "BaseException", .type "object"] "ValueError.__new__" = true
  bP_LensError : PySem.W.subIn K (.ref a_LensError) (.type "BaseException") = some true
  tP_LensError : PySem.W.typeIn K (.ref a_LensError) = some (.type "type")
  iP_LensError : PySem.W.isClsIn K a_LensError = true
  a_BadAlignment : Addr
  g_BadAlignment : mg "BadAlignment" = some (.ref a_BadAlignment)
  k_BadAlignment : PySem.W.keepIn K (.ref a_BadAlignment) = true
  x_BadAlignment : PySem.W.excIn K a_BadAlignment [.type "ValueError", .type "Exception", .type "BaseException", .type "object"] "ValueError.__new__" = true
  bP_BadAlignment : PySem.W.subIn K (.ref a_BadAlignment) (.type "BaseException") = some true
  tP_BadAlignment : PySem.W.typeIn K (.ref a_BadAlignment) = some (.type "type")
  iP_BadAlignment : PySem.W.isClsIn K a_BadAlignment = true
  f_ranks_of : Addr
  fd_ranks_of : FuncData
  F_ranks_of : Fun K "ranks_of" "ranks_of" s_ranks_of f_ranks_of fd_ranks_of
  b_ranks_of : Binds K fd_ranks_of ["alignment", "falling"] []
  g_ranks_of : mg "ranks_of" = some (.ref f_ranks_of)
  f_staying : Addr
  fd_staying : FuncData
  F_staying : Fun K "staying" "staying" s_staying f_staying fd_staying
  ds_staying : List Value
  dv_staying : Vals [V.bl false] ds_staying
  b_staying : Binds K fd_staying ["alignment", "falling"] ds_staying
  bk_staying : KBn K fd_staying ["alignment", "falling"] 1 ["falling"] (fun us ws => us ++ ws) (fun vs zs => vs ++ zs)
  g_staying : mg "staying" = some (.ref f_staying)
  f__law_mix : Addr
  fd__law_mix : FuncData
  F__law_mix : Fun K "_law_mix" "_law_mix" s__law_mix f__law_mix fd__law_mix
  b__law_mix : Binds K fd__law_mix ["cell", "k"] []
  g__law_mix : mg "_law_mix" = some (.ref f__law_mix)
  f__law_stream : Addr
  fd__law_stream : FuncData
  F__law_stream : Fun K "_law_stream" "_law_stream" s__law_stream f__law_stream fd__law_stream
  b__law_stream : Binds K fd__law_stream ["script", "many"] []
  g__law_stream : mg "_law_stream" = some (.ref f__law_stream)
  f__law_pick : Addr
  fd__law_pick : FuncData
  F__law_pick : Fun K "_law_pick" "_law_pick" s__law_pick f__law_pick fd__law_pick
  b__law_pick : Binds K fd__law_pick ["numbers", "at", "many"] []
  g__law_pick : mg "_law_pick" = some (.ref f__law_pick)
  f__law_wide : Addr
  fd__law_wide : FuncData
  F__law_wide : Fun K "_law_wide" "_law_wide" s__law_wide f__law_wide fd__law_wide
  b__law_wide : Binds K fd__law_wide ["numbers", "at", "many"] []
  g__law_wide : mg "_law_wide" = some (.ref f__law_wide)
  f__law_order : Addr
  fd__law_order : FuncData
  F__law_order : Fun K "_law_order" "_law_order" s__law_order f__law_order fd__law_order
  b__law_order : Binds K fd__law_order ["numbers", "many", "way"] []
  g__law_order : mg "_law_order" = some (.ref f__law_order)
  f__law_items : Addr
  fd__law_items : FuncData
  F__law_items : Fun K "_law_items" "_law_items" s__law_items f__law_items fd__law_items
  b__law_items : Binds K fd__law_items ["numbers"] []
  g__law_items : mg "_law_items" = some (.ref f__law_items)
  f__law_bent : Addr
  fd__law_bent : FuncData
  F__law_bent : Fun K "_law_bent" "_law_bent" s__law_bent f__law_bent fd__law_bent
  b__law_bent : Binds K fd__law_bent ["items", "numbers", "at"] []
  g__law_bent : mg "_law_bent" = some (.ref f__law_bent)
  f__law_valid : Addr
  fd__law_valid : FuncData
  F__law_valid : Fun K "_law_valid" "_law_valid" s__law_valid f__law_valid fd__law_valid
  b__law_valid : Binds K fd__law_valid ["items"] []
  g__law_valid : mg "_law_valid" = some (.ref f__law_valid)
  f__law_ascends : Addr
  fd__law_ascends : FuncData
  F__law_ascends : Fun K "_law_ascends" "_law_ascends" s__law_ascends f__law_ascends fd__law_ascends
  b__law_ascends : Binds K fd__law_ascends ["numbers"] []
  g__law_ascends : mg "_law_ascends" = some (.ref f__law_ascends)
  f__law_longest : Addr
  fd__law_longest : FuncData
  F__law_longest : Fun K "_law_longest" "_law_longest" s__law_longest f__law_longest fd__law_longest
  b__law_longest : Binds K fd__law_longest ["numbers"] []
  g__law_longest : mg "_law_longest" = some (.ref f__law_longest)
  f__law_places : Addr
  fd__law_places : FuncData
  F__law_places : Fun K "_law_places" "_law_places" s__law_places f__law_places fd__law_places
  b__law_places : Binds K fd__law_places ["row", "taken"] []
  g__law_places : mg "_law_places" = some (.ref f__law_places)
  f__law_stays : Addr
  fd__law_stays : FuncData
  F__law_stays : Fun K "_law_stays" "_law_stays" s__law_stays f__law_stays fd__law_stays
  b__law_stays : Binds K fd__law_stays ["items", "down", "told"] []
  g__law_stays : mg "_law_stays" = some (.ref f__law_stays)
  f__law_refused : Addr
  fd__law_refused : FuncData
  F__law_refused : Fun K "_law_refused" "_law_refused" s__law_refused f__law_refused fd__law_refused
  b__law_refused : Binds K fd__law_refused ["items", "way"] []
  g__law_refused : mg "_law_refused" = some (.ref f__law_refused)
  f__law_answers : Addr
  fd__law_answers : FuncData
  F__law_answers : Fun K "_law_answers" "_law_answers" s__law_answers f__law_answers fd__law_answers
  b__law_answers : Binds K fd__law_answers ["items"] []
  g__law_answers : mg "_law_answers" = some (.ref f__law_answers)
  f_law : Addr
  fd_law : FuncData
  F_law : Fun K "law" "law" s_law f_law fd_law
  b_law : Binds K fd_law ["script"] []
  g_law : mg "law" = some (.ref f_law)
  bt_law : ∀ (s : Shared) (v : Value), BindsTo s fd_law ⟨[v], []⟩ [("script", v)]
  z_ValueError : mg "ValueError" = none
  z_abs : mg "abs" = none
  z_any : mg "any" = none
  z_bool : mg "bool" = none
  z_enumerate : mg "enumerate" = none
  z_int : mg "int" = none
  z_isinstance : mg "isinstance" = none
  z_len : mg "len" = none
  z_list : mg "list" = none
  z_max : mg "max" = none
  z_range : mg "range" = none
  z_set : mg "set" = none
  z_sorted : mg "sorted" = none
  z_tuple : mg "tuple" = none
  ecg : PySem.W.findIn K (.ref a_BadAlignment) "__getattribute__" = some (some (.builtin "BaseException.__getattribute__"))
  eck : PySem.W.findIn K (.ref a_BadAlignment) "__getattr__" = some none
  ecd : PySem.W.hasDictIn K a_BadAlignment = true
  eca : PySem.W.findIn K (.ref a_BadAlignment) "__class__" = some (some (.builtin "object.__class__"))
  ecm : PySem.W.mroIn K a_BadAlignment (.type "object") = some true
  em_bl : PySem.W.exmOne K (.ref a_BadAlignment) (.ref a_LensError) = some true
  kv_bs : PySem.W.kitOne K (.ref a_BadAlignment) (.type "ValueError") = some true
  hn_ : PySem.W.specialIn K (.builtin "object.__class__") "__get__" = some (some (.builtin "getset_descriptor.__get__"))
  htk_ : PySem.W.takesIn K (.builtin "object.__class__") = some true
theorem txt_mk {K : PySem.W.Frag} {h : Heap} {mg : Str → Option Value} {w : World} (X : K.In h) (G : h.Ns mainGlobals mg) {a_LensError a_BadAlignment f_ranks_of f_staying f__law_mix f__law_stream f__law_pick f__law_wide f__law_order f__law_items f__law_bent f__law_valid f__law_ascends f__law_longest f__law_places f__law_stays f__law_refused f__law_answers f_law : Addr}
    {oc_ranks_of kV_ranks_of dc_ranks_of pm_ranks_of cd_ranks_of ct_ranks_of : Value} {od_ranks_of an_ranks_of : Option Addr} {sl_ranks_of : Array (Option Value)} {kD_staying : Addr} {oc_staying dc_staying pm_staying cd_staying ct_staying : Value} {od_staying an_staying : Option Addr} {sl_staying : Array (Option Value)} {oc__law_mix kV__law_mix dc__law_mix pm__law_mix cd__law_mix ct__law_mix : Value} {od__law_mix an__law_mix : Option Addr} {sl__law_mix : Array (Option Value)} {oc__law_stream kV__law_stream dc__law_stream pm__law_stream cd__law_stream ct__law_stream : Value} {od__law_stream an__law_stream : Option Addr} {sl__law_stream : Array (Option Value)} {oc__law_pick kV__law_pick dc__law_pick pm__law_pick cd__law_pick ct__law_pick : Value} {od__law_pick an__law_pick : Option Addr} {sl__law_pick : Array (Option Value)} {oc__law_wide kV__law_wide dc__law_wide pm__law_wide cd__law_wide ct__law_wide : Value} {od__law_wide an__law_wide : Option Addr} {sl__law_wide : Array (Option Value)} {oc__law_order kV__law_order dc__law_order pm__law_order cd__law_order ct__law_order : Value} {od__law_order an__law_order : Option Addr} {sl__law_order : Array (Option Value)} {oc__law_items kV__law_items dc__law_items pm__law_items cd__law_items ct__law_items : Value} {od__law_items an__law_items : Option Addr} {sl__law_items : Array (Option Value)} {oc__law_bent kV__law_bent dc__law_bent pm__law_bent cd__law_bent ct__law_bent : Value} {od__law_bent an__law_bent : Option Addr} {sl__law_bent : Array (Option Value)} {oc__law_valid kV__law_valid dc__law_valid pm__law_valid cd__law_valid ct__law_valid : Value} {od__law_valid an__law_valid : Option Addr} {sl__law_valid : Array (Option Value)} {oc__law_ascends kV__law_ascends dc__law_ascends pm__law_ascends cd__law_ascends ct__law_ascends : Value} {od__law_ascends an__law_ascends : Option Addr} {sl__law_ascends : Array (Option Value)} {oc__law_longest kV__law_longest dc__law_longest pm__law_longest cd__law_longest ct__law_longest : Value} {od__law_longest an__law_longest : Option Addr} {sl__law_longest : Array (Option Value)} {oc__law_places kV__law_places dc__law_places pm__law_places cd__law_places ct__law_places : Value} {od__law_places an__law_places : Option Addr} {sl__law_places : Array (Option Value)} {oc__law_stays kV__law_stays dc__law_stays pm__law_stays cd__law_stays ct__law_stays : Value} {od__law_stays an__law_stays : Option Addr} {sl__law_stays : Array (Option Value)} {oc__law_refused kV__law_refused dc__law_refused pm__law_refused cd__law_refused ct__law_refused : Value} {od__law_refused an__law_refused : Option Addr} {sl__law_refused : Array (Option Value)} {oc__law_answers kV__law_answers dc__law_answers pm__law_answers cd__law_answers ct__law_answers : Value} {od__law_answers an__law_answers : Option Addr} {sl__law_answers : Array (Option Value)} {oc_law kV_law dc_law pm_law cd_law ct_law : Value} {od_law an_law : Option Addr} {sl_law : Array (Option Value)}
    (ga_LensError : PySem.W.nsIn K mainGlobals "LensError" = some (some (.ref a_LensError)))
    (k_LensError : PySem.W.keepIn K (.ref a_LensError) = true)
    (x_LensError : PySem.W.excIn K a_LensError [.type "ValueError", .type "Exception", .type "BaseException", .type "object"] "ValueError.__new__" = true)
    (bP_LensError : PySem.W.subIn K (.ref a_LensError) (.type "BaseException") = some true)
    (tP_LensError : PySem.W.typeIn K (.ref a_LensError) = some (.type "type"))
    (iP_LensError : PySem.W.isClsIn K a_LensError = true)
    (ga_BadAlignment : PySem.W.nsIn K mainGlobals "BadAlignment" = some (some (.ref a_BadAlignment)))
    (k_BadAlignment : PySem.W.keepIn K (.ref a_BadAlignment) = true)
    (x_BadAlignment : PySem.W.excIn K a_BadAlignment [.type "ValueError", .type "Exception", .type "BaseException", .type "object"] "ValueError.__new__" = true)
    (bP_BadAlignment : PySem.W.subIn K (.ref a_BadAlignment) (.type "BaseException") = some true)
    (tP_BadAlignment : PySem.W.typeIn K (.ref a_BadAlignment) = some (.type "type"))
    (iP_BadAlignment : PySem.W.isClsIn K a_BadAlignment = true)
    (ga_ranks_of : PySem.W.nsIn K mainGlobals "ranks_of" = some (some (.ref f_ranks_of)))
    (l_ranks_of : K.lookup f_ranks_of = some ⟨oc_ranks_of, od_ranks_of, .func (PySem.W.fnOf "ranks_of" "ranks_of" (defArgs s_ranks_of) (defBody s_ranks_of) (defScope s_ranks_of) .none kV_ranks_of dc_ranks_of pm_ranks_of an_ranks_of cd_ranks_of ct_ranks_of), sl_ranks_of⟩)
    (cc_ranks_of : PySem.W.codeIn K cd_ranks_of "ranks_of" = true)
    (k_ranks_of : PySem.W.keepIn K (.ref f_ranks_of) = true)
    (ga_staying : PySem.W.nsIn K mainGlobals "staying" = some (some (.ref f_staying)))
    (l_staying : K.lookup f_staying = some ⟨oc_staying, od_staying, .func (PySem.W.fnOf "staying" "staying" (defArgs s_staying) (defBody s_staying) (defScope s_staying) .none (.ref kD_staying) dc_staying pm_staying an_staying cd_staying ct_staying), sl_staying⟩)
    (cc_staying : PySem.W.codeIn K cd_staying "staying" = true)
    (k_staying : PySem.W.keepIn K (.ref f_staying) = true)
    (kd_staying_falling : PySem.W.nsIn K kD_staying "falling" = some (some (.bool false)))
    (ga__law_mix : PySem.W.nsIn K mainGlobals "_law_mix" = some (some (.ref f__law_mix)))
    (l__law_mix : K.lookup f__law_mix = some ⟨oc__law_mix, od__law_mix, .func (PySem.W.fnOf "_law_mix" "_law_mix" (defArgs s__law_mix) (defBody s__law_mix) (defScope s__law_mix) .none kV__law_mix dc__law_mix pm__law_mix an__law_mix cd__law_mix ct__law_mix), sl__law_mix⟩)
    (cc__law_mix : PySem.W.codeIn K cd__law_mix "_law_mix" = true)
    (k__law_mix : PySem.W.keepIn K (.ref f__law_mix) = true)
    (ga__law_stream : PySem.W.nsIn K mainGlobals "_law_stream" = some (some (.ref f__law_stream)))
    (l__law_stream : K.lookup f__law_stream = some ⟨oc__law_stream, od__law_stream, .func (PySem.W.fnOf "_law_stream" "_law_stream" (defArgs s__law_stream) (defBody s__law_stream) (defScope s__law_stream) .none kV__law_stream dc__law_stream pm__law_stream an__law_stream cd__law_stream ct__law_stream), sl__law_stream⟩)
    (cc__law_stream : PySem.W.codeIn K cd__law_stream "_law_stream" = true)
    (k__law_stream : PySem.W.keepIn K (.ref f__law_stream) = true)
    (ga__law_pick : PySem.W.nsIn K mainGlobals "_law_pick" = some (some (.ref f__law_pick)))
    (l__law_pick : K.lookup f__law_pick = some ⟨oc__law_pick, od__law_pick, .func (PySem.W.fnOf "_law_pick" "_law_pick" (defArgs s__law_pick) (defBody s__law_pick) (defScope s__law_pick) .none kV__law_pick dc__law_pick pm__law_pick an__law_pick cd__law_pick ct__law_pick), sl__law_pick⟩)
    (cc__law_pick : PySem.W.codeIn K cd__law_pick "_law_pick" = true)
    (k__law_pick : PySem.W.keepIn K (.ref f__law_pick) = true)
    (ga__law_wide : PySem.W.nsIn K mainGlobals "_law_wide" = some (some (.ref f__law_wide)))
    (l__law_wide : K.lookup f__law_wide = some ⟨oc__law_wide, od__law_wide, .func (PySem.W.fnOf "_law_wide" "_law_wide" (defArgs s__law_wide) (defBody s__law_wide) (defScope s__law_wide) .none kV__law_wide dc__law_wide pm__law_wide an__law_wide cd__law_wide ct__law_wide), sl__law_wide⟩)
    (cc__law_wide : PySem.W.codeIn K cd__law_wide "_law_wide" = true)
    (k__law_wide : PySem.W.keepIn K (.ref f__law_wide) = true)
    (ga__law_order : PySem.W.nsIn K mainGlobals "_law_order" = some (some (.ref f__law_order)))
    (l__law_order : K.lookup f__law_order = some ⟨oc__law_order, od__law_order, .func (PySem.W.fnOf "_law_order" "_law_order" (defArgs s__law_order) (defBody s__law_order) (defScope s__law_order) .none kV__law_order dc__law_order pm__law_order an__law_order cd__law_order ct__law_order), sl__law_order⟩)
    (cc__law_order : PySem.W.codeIn K cd__law_order "_law_order" = true)
    (k__law_order : PySem.W.keepIn K (.ref f__law_order) = true)
    (ga__law_items : PySem.W.nsIn K mainGlobals "_law_items" = some (some (.ref f__law_items)))
    (l__law_items : K.lookup f__law_items = some ⟨oc__law_items, od__law_items, .func (PySem.W.fnOf "_law_items" "_law_items" (defArgs s__law_items) (defBody s__law_items) (defScope s__law_items) .none kV__law_items dc__law_items pm__law_items an__law_items cd__law_items ct__law_items), sl__law_items⟩)
    (cc__law_items : PySem.W.codeIn K cd__law_items "_law_items" = true)
    (k__law_items : PySem.W.keepIn K (.ref f__law_items) = true)
    (ga__law_bent : PySem.W.nsIn K mainGlobals "_law_bent" = some (some (.ref f__law_bent)))
    (l__law_bent : K.lookup f__law_bent = some ⟨oc__law_bent, od__law_bent, .func (PySem.W.fnOf "_law_bent" "_law_bent" (defArgs s__law_bent) (defBody s__law_bent) (defScope s__law_bent) .none kV__law_bent dc__law_bent pm__law_bent an__law_bent cd__law_bent ct__law_bent), sl__law_bent⟩)
    (cc__law_bent : PySem.W.codeIn K cd__law_bent "_law_bent" = true)
    (k__law_bent : PySem.W.keepIn K (.ref f__law_bent) = true)
    (ga__law_valid : PySem.W.nsIn K mainGlobals "_law_valid" = some (some (.ref f__law_valid)))
    (l__law_valid : K.lookup f__law_valid = some ⟨oc__law_valid, od__law_valid, .func (PySem.W.fnOf "_law_valid" "_law_valid" (defArgs s__law_valid) (defBody s__law_valid) (defScope s__law_valid) .none kV__law_valid dc__law_valid pm__law_valid an__law_valid cd__law_valid ct__law_valid), sl__law_valid⟩)
    (cc__law_valid : PySem.W.codeIn K cd__law_valid "_law_valid" = true)
    (k__law_valid : PySem.W.keepIn K (.ref f__law_valid) = true)
    (ga__law_ascends : PySem.W.nsIn K mainGlobals "_law_ascends" = some (some (.ref f__law_ascends)))
    (l__law_ascends : K.lookup f__law_ascends = some ⟨oc__law_ascends, od__law_ascends, .func (PySem.W.fnOf "_law_ascends" "_law_ascends" (defArgs s__law_ascends) (defBody s__law_ascends) (defScope s__law_ascends) .none kV__law_ascends dc__law_ascends pm__law_ascends an__law_ascends cd__law_ascends ct__law_ascends), sl__law_ascends⟩)
    (cc__law_ascends : PySem.W.codeIn K cd__law_ascends "_law_ascends" = true)
    (k__law_ascends : PySem.W.keepIn K (.ref f__law_ascends) = true)
    (ga__law_longest : PySem.W.nsIn K mainGlobals "_law_longest" = some (some (.ref f__law_longest)))
    (l__law_longest : K.lookup f__law_longest = some ⟨oc__law_longest, od__law_longest, .func (PySem.W.fnOf "_law_longest" "_law_longest" (defArgs s__law_longest) (defBody s__law_longest) (defScope s__law_longest) .none kV__law_longest dc__law_longest pm__law_longest an__law_longest cd__law_longest ct__law_longest), sl__law_longest⟩)
    (cc__law_longest : PySem.W.codeIn K cd__law_longest "_law_longest" = true)
    (k__law_longest : PySem.W.keepIn K (.ref f__law_longest) = true)
    (ga__law_places : PySem.W.nsIn K mainGlobals "_law_places" = some (some (.ref f__law_places)))
    (l__law_places : K.lookup f__law_places = some ⟨oc__law_places, od__law_places, .func (PySem.W.fnOf "_law_places" "_law_places" (defArgs s__law_places) (defBody s__law_places) (defScope s__law_places) .none kV__law_places dc__law_places pm__law_places an__law_places cd__law_places ct__law_places), sl__law_places⟩)
    (cc__law_places : PySem.W.codeIn K cd__law_places "_law_places" = true)
    (k__law_places : PySem.W.keepIn K (.ref f__law_places) = true)
    (ga__law_stays : PySem.W.nsIn K mainGlobals "_law_stays" = some (some (.ref f__law_stays)))
    (l__law_stays : K.lookup f__law_stays = some ⟨oc__law_stays, od__law_stays, .func (PySem.W.fnOf "_law_stays" "_law_stays" (defArgs s__law_stays) (defBody s__law_stays) (defScope s__law_stays) .none kV__law_stays dc__law_stays pm__law_stays an__law_stays cd__law_stays ct__law_stays), sl__law_stays⟩)
    (cc__law_stays : PySem.W.codeIn K cd__law_stays "_law_stays" = true)
    (k__law_stays : PySem.W.keepIn K (.ref f__law_stays) = true)
    (ga__law_refused : PySem.W.nsIn K mainGlobals "_law_refused" = some (some (.ref f__law_refused)))
    (l__law_refused : K.lookup f__law_refused = some ⟨oc__law_refused, od__law_refused, .func (PySem.W.fnOf "_law_refused" "_law_refused" (defArgs s__law_refused) (defBody s__law_refused) (defScope s__law_refused) .none kV__law_refused dc__law_refused pm__law_refused an__law_refused cd__law_refused ct__law_refused), sl__law_refused⟩)
    (cc__law_refused : PySem.W.codeIn K cd__law_refused "_law_refused" = true)
    (k__law_refused : PySem.W.keepIn K (.ref f__law_refused) = true)
    (ga__law_answers : PySem.W.nsIn K mainGlobals "_law_answers" = some (some (.ref f__law_answers)))
    (l__law_answers : K.lookup f__law_answers = some ⟨oc__law_answers, od__law_answers, .func (PySem.W.fnOf "_law_answers" "_law_answers" (defArgs s__law_answers) (defBody s__law_answers) (defScope s__law_answers) .none kV__law_answers dc__law_answers pm__law_answers an__law_answers cd__law_answers ct__law_answers), sl__law_answers⟩)
    (cc__law_answers : PySem.W.codeIn K cd__law_answers "_law_answers" = true)
    (k__law_answers : PySem.W.keepIn K (.ref f__law_answers) = true)
    (ga_law : PySem.W.nsIn K mainGlobals "law" = some (some (.ref f_law)))
    (l_law : K.lookup f_law = some ⟨oc_law, od_law, .func (PySem.W.fnOf "law" "law" (defArgs s_law) (defBody s_law) (defScope s_law) .none kV_law dc_law pm_law an_law cd_law ct_law), sl_law⟩)
    (cc_law : PySem.W.codeIn K cd_law "law" = true)
    (k_law : PySem.W.keepIn K (.ref f_law) = true)
    (zz_ValueError : PySem.W.nsIn K mainGlobals "ValueError" = some none)
    (zz_abs : PySem.W.nsIn K mainGlobals "abs" = some none)
    (zz_any : PySem.W.nsIn K mainGlobals "any" = some none)
    (zz_bool : PySem.W.nsIn K mainGlobals "bool" = some none)
    (zz_enumerate : PySem.W.nsIn K mainGlobals "enumerate" = some none)
    (zz_int : PySem.W.nsIn K mainGlobals "int" = some none)
    (zz_isinstance : PySem.W.nsIn K mainGlobals "isinstance" = some none)
    (zz_len : PySem.W.nsIn K mainGlobals "len" = some none)
    (zz_list : PySem.W.nsIn K mainGlobals "list" = some none)
    (zz_max : PySem.W.nsIn K mainGlobals "max" = some none)
    (zz_range : PySem.W.nsIn K mainGlobals "range" = some none)
    (zz_set : PySem.W.nsIn K mainGlobals "set" = some none)
    (zz_sorted : PySem.W.nsIn K mainGlobals "sorted" = some none)
    (zz_tuple : PySem.W.nsIn K mainGlobals "tuple" = some none)
    (ecg : PySem.W.findIn K (.ref a_BadAlignment) "__getattribute__" = some (some (.builtin "BaseException.__getattribute__")))
    (eck : PySem.W.findIn K (.ref a_BadAlignment) "__getattr__" = some none)
    (ecd : PySem.W.hasDictIn K a_BadAlignment = true)
    (eca : PySem.W.findIn K (.ref a_BadAlignment) "__class__" = some (some (.builtin "object.__class__")))
    (ecm : PySem.W.mroIn K a_BadAlignment (.type "object") = some true)
    (em_bl : PySem.W.exmOne K (.ref a_BadAlignment) (.ref a_LensError) = some true)
    (kv_bs : PySem.W.kitOne K (.ref a_BadAlignment) (.type "ValueError") = some true)
    (hn_ : PySem.W.specialIn K (.builtin "object.__class__") "__get__" = some (some (.builtin "getset_descriptor.__get__")))
    (htk_ : PySem.W.takesIn K (.builtin "object.__class__") = some true)
    {fa : Addr} (hfa : mg "law" = some (.ref fa)) : ∃ T : Txt K mg w, T.f_law = fa := by
  have e := hfa.symm.trans (PySem.W.mg_of X G ga_law)
  cases e
  have FD_staying : ∃ fd, fd = PySem.W.fnOf "staying" "staying" (defArgs s_staying) (defBody s_staying) (defScope s_staying) .none (.ref kD_staying) dc_staying pm_staying an_staying cd_staying ct_staying ∧ FunD K "staying" "staying" (defArgs s_staying) (defBody s_staying) (defScope s_staying) [] [("falling", V.bl false)] f_staying fd := by
    refine ⟨_, rfl, ⟨⟨oc_staying, od_staying, .none, .ref kD_staying, dc_staying, pm_staying, an_staying, cd_staying, ct_staying, sl_staying, rfl, l_staying, cc_staying, .inl ⟨rfl, rfl⟩, .inr ⟨kD_staying, rfl, fun q hq => ?_⟩⟩, k_staying⟩⟩
    (rcases List.mem_cons.mp hq with rfl | hq; exact ⟨_, kd_staying_falling, rfl⟩); cases hq
  obtain ⟨fdx_staying, fe_staying, FD_staying⟩ := FD_staying
  obtain ⟨ds_staying, dv_staying, b_staying⟩ := FD_staying.binds0 (ps := ["alignment", "falling"]) 1 (by decide) rfl fun D doc pm an cdv ct us ks h1 h2 => match us, ks, h1, h2 with | [_], [_], _, _ => ⟨_, _, _, _, _, _, rfl, rfl, rfl⟩
  obtain ⟨mv_staying, bk_staying⟩ := FD_staying.kbinds0 (ps := ["alignment", "falling"]) 1 ["falling"] [] (fun us _ ws => us ++ ws) (by decide) (fun q hq => by cases hq) (fun r1 _ r2 => r1.append r2) fun D doc pm an cdv ct us mv ws h1 h2 h3 => match us, ws, mv, h1, h2, h3 with | [_], [_], [], _, _, _ => rfl
  subst fe_staying
  exact ⟨{
      a_LensError := a_LensError,
      g_LensError := PySem.W.mg_of X G ga_LensError,
      k_LensError := k_LensError,
      x_LensError := x_LensError,
      bP_LensError := bP_LensError,
      tP_LensError := tP_LensError,
      iP_LensError := iP_LensError,
      a_BadAlignment := a_BadAlignment,
      g_BadAlignment := PySem.W.mg_of X G ga_BadAlignment,
      k_BadAlignment := k_BadAlignment,
      x_BadAlignment := x_BadAlignment,
      bP_BadAlignment := bP_BadAlignment,
      tP_BadAlignment := tP_BadAlignment,
      iP_BadAlignment := iP_BadAlignment,
      g_ranks_of := PySem.W.mg_of X G ga_ranks_of,
      f_ranks_of := f_ranks_of,
      fd_ranks_of := _,
      F_ranks_of := fun_mk (st := s_ranks_of) l_ranks_of cc_ranks_of k_ranks_of,
      b_ranks_of := (fun_mk (st := s_ranks_of) l_ranks_of cc_ranks_of k_ranks_of).binds (ps := ["alignment", "falling"]) fun _ _ _ _ _ _ us hl => match us, hl with | [_, _], _ => rfl,
      g_staying := PySem.W.mg_of X G ga_staying,
      f_staying := f_staying,
      fd_staying := _,
      F_staying := fun_mk (st := s_staying) l_staying cc_staying k_staying,
      ds_staying := ds_staying,
      dv_staying := dv_staying,
      b_staying := b_staying,
      bk_staying := bk_staying,
      g__law_mix := PySem.W.mg_of X G ga__law_mix,
      f__law_mix := f__law_mix,
      fd__law_mix := _,
      F__law_mix := fun_mk (st := s__law_mix) l__law_mix cc__law_mix k__law_mix,
      b__law_mix := (fun_mk (st := s__law_mix) l__law_mix cc__law_mix k__law_mix).binds (ps := ["cell", "k"]) fun _ _ _ _ _ _ us hl => match us, hl with | [_, _], _ => rfl,
      g__law_stream := PySem.W.mg_of X G ga__law_stream,
      f__law_stream := f__law_stream,
      fd__law_stream := _,
      F__law_stream := fun_mk (st := s__law_stream) l__law_stream cc__law_stream k__law_stream,
      b__law_stream := (fun_mk (st := s__law_stream) l__law_stream cc__law_stream k__law_stream).binds (ps := ["script", "many"]) fun _ _ _ _ _ _ us hl => match us, hl with | [_, _], _ => rfl,
      g__law_pick := PySem.W.mg_of X G ga__law_pick,
      f__law_pick := f__law_pick,
      fd__law_pick := _,
      F__law_pick := fun_mk (st := s__law_pick) l__law_pick cc__law_pick k__law_pick,
      b__law_pick := (fun_mk (st := s__law_pick) l__law_pick cc__law_pick k__law_pick).binds (ps := ["numbers", "at", "many"]) fun _ _ _ _ _ _ us hl => match us, hl with | [_, _, _], _ => rfl,
      g__law_wide := PySem.W.mg_of X G ga__law_wide,
      f__law_wide := f__law_wide,
      fd__law_wide := _,
      F__law_wide := fun_mk (st := s__law_wide) l__law_wide cc__law_wide k__law_wide,
      b__law_wide := (fun_mk (st := s__law_wide) l__law_wide cc__law_wide k__law_wide).binds (ps := ["numbers", "at", "many"]) fun _ _ _ _ _ _ us hl => match us, hl with | [_, _, _], _ => rfl,
      g__law_order := PySem.W.mg_of X G ga__law_order,
      f__law_order := f__law_order,
      fd__law_order := _,
      F__law_order := fun_mk (st := s__law_order) l__law_order cc__law_order k__law_order,
      b__law_order := (fun_mk (st := s__law_order) l__law_order cc__law_order k__law_order).binds (ps := ["numbers", "many", "way"]) fun _ _ _ _ _ _ us hl => match us, hl with | [_, _, _], _ => rfl,
      g__law_items := PySem.W.mg_of X G ga__law_items,
      f__law_items := f__law_items,
      fd__law_items := _,
      F__law_items := fun_mk (st := s__law_items) l__law_items cc__law_items k__law_items,
      b__law_items := (fun_mk (st := s__law_items) l__law_items cc__law_items k__law_items).binds (ps := ["numbers"]) fun _ _ _ _ _ _ us hl => match us, hl with | [_], _ => rfl,
      g__law_bent := PySem.W.mg_of X G ga__law_bent,
      f__law_bent := f__law_bent,
      fd__law_bent := _,
      F__law_bent := fun_mk (st := s__law_bent) l__law_bent cc__law_bent k__law_bent,
      b__law_bent := (fun_mk (st := s__law_bent) l__law_bent cc__law_bent k__law_bent).binds (ps := ["items", "numbers", "at"]) fun _ _ _ _ _ _ us hl => match us, hl with | [_, _, _], _ => rfl,
      g__law_valid := PySem.W.mg_of X G ga__law_valid,
      f__law_valid := f__law_valid,
      fd__law_valid := _,
      F__law_valid := fun_mk (st := s__law_valid) l__law_valid cc__law_valid k__law_valid,
      b__law_valid := (fun_mk (st := s__law_valid) l__law_valid cc__law_valid k__law_valid).binds (ps := ["items"]) fun _ _ _ _ _ _ us hl => match us, hl with | [_], _ => rfl,
      g__law_ascends := PySem.W.mg_of X G ga__law_ascends,
      f__law_ascends := f__law_ascends,
      fd__law_ascends := _,
      F__law_ascends := fun_mk (st := s__law_ascends) l__law_ascends cc__law_ascends k__law_ascends,
      b__law_ascends := (fun_mk (st := s__law_ascends) l__law_ascends cc__law_ascends k__law_ascends).binds (ps := ["numbers"]) fun _ _ _ _ _ _ us hl => match us, hl with | [_], _ => rfl,
      g__law_longest := PySem.W.mg_of X G ga__law_longest,
      f__law_longest := f__law_longest,
      fd__law_longest := _,
      F__law_longest := fun_mk (st := s__law_longest) l__law_longest cc__law_longest k__law_longest,
      b__law_longest := (fun_mk (st := s__law_longest) l__law_longest cc__law_longest k__law_longest).binds (ps := ["numbers"]) fun _ _ _ _ _ _ us hl => match us, hl with | [_], _ => rfl,
      g__law_places := PySem.W.mg_of X G ga__law_places,
      f__law_places := f__law_places,
      fd__law_places := _,
      F__law_places := fun_mk (st := s__law_places) l__law_places cc__law_places k__law_places,
      b__law_places := (fun_mk (st := s__law_places) l__law_places cc__law_places k__law_places).binds (ps := ["row", "taken"]) fun _ _ _ _ _ _ us hl => match us, hl with | [_, _], _ => rfl,
      g__law_stays := PySem.W.mg_of X G ga__law_stays,
      f__law_stays := f__law_stays,
      fd__law_stays := _,
      F__law_stays := fun_mk (st := s__law_stays) l__law_stays cc__law_stays k__law_stays,
      b__law_stays := (fun_mk (st := s__law_stays) l__law_stays cc__law_stays k__law_stays).binds (ps := ["items", "down", "told"]) fun _ _ _ _ _ _ us hl => match us, hl with | [_, _, _], _ => rfl,
      g__law_refused := PySem.W.mg_of X G ga__law_refused,
      f__law_refused := f__law_refused,
      fd__law_refused := _,
      F__law_refused := fun_mk (st := s__law_refused) l__law_refused cc__law_refused k__law_refused,
      b__law_refused := (fun_mk (st := s__law_refused) l__law_refused cc__law_refused k__law_refused).binds (ps := ["items", "way"]) fun _ _ _ _ _ _ us hl => match us, hl with | [_, _], _ => rfl,
      g__law_answers := PySem.W.mg_of X G ga__law_answers,
      f__law_answers := f__law_answers,
      fd__law_answers := _,
      F__law_answers := fun_mk (st := s__law_answers) l__law_answers cc__law_answers k__law_answers,
      b__law_answers := (fun_mk (st := s__law_answers) l__law_answers cc__law_answers k__law_answers).binds (ps := ["items"]) fun _ _ _ _ _ _ us hl => match us, hl with | [_], _ => rfl,
      g_law := PySem.W.mg_of X G ga_law,
      f_law := f_law,
      fd_law := _,
      F_law := fun_mk (st := s_law) l_law cc_law k_law,
      b_law := (fun_mk (st := s_law) l_law cc_law k_law).binds (ps := ["script"]) fun _ _ _ _ _ _ us hl => match us, hl with | [_], _ => rfl,
      bt_law := fun s v => .of_eq rfl,
      z_ValueError := PySem.W.mg_none_of X G zz_ValueError,
      z_abs := PySem.W.mg_none_of X G zz_abs,
      z_any := PySem.W.mg_none_of X G zz_any,
      z_bool := PySem.W.mg_none_of X G zz_bool,
      z_enumerate := PySem.W.mg_none_of X G zz_enumerate,
      z_int := PySem.W.mg_none_of X G zz_int,
      z_isinstance := PySem.W.mg_none_of X G zz_isinstance,
      z_len := PySem.W.mg_none_of X G zz_len,
      z_list := PySem.W.mg_none_of X G zz_list,
      z_max := PySem.W.mg_none_of X G zz_max,
      z_range := PySem.W.mg_none_of X G zz_range,
      z_set := PySem.W.mg_none_of X G zz_set,
      z_sorted := PySem.W.mg_none_of X G zz_sorted,
      z_tuple := PySem.W.mg_none_of X G zz_tuple,
      ecg := ecg,
      eck := eck,
      ecd := ecd,
      eca := eca,
      ecm := ecm,
      em_bl := em_bl,
      kv_bs := kv_bs,
      hn_ := hn_,
      htk_ := htk_ }, rfl⟩
end K39
namespace K39
open PySem PySem.Spec PyProof.Rows L2
local macro_rules | `(tactic| walk_at "con") => `(tactic| first | fail)
section
variable {P : Program} {w : World} {K : PySem.W.Frag} {mg : Str → Option Value} {base : Heap}
def mix (cell k : Int) : Int :=
  ((((cell * 48271 + k * 7919 + 101) % 2147483647) * ((cell * 48271 + k * 7919 + 101) % 2147483647) + 31 * ((cell * 48271 + k * 7919 + 101) % 2147483647) + k * k * 17) % 1000000007 * 69621 + 5) % 2147483647 / 7
def sp_mix : Sp := fun vs H Q _ => ∃ (c k : Int), vs = [.int c, .int k] ∧ 0 ≤ k ∧ k < 10000 ∧ Q (.int (mix c k)) H
theorem G__law_mix (T : Txt K mg w) : FnOk P w K mg base CX0 1 T.f__law_mix T.fd__law_mix ["cell", "k"] sp_mix := by
  refine T.F__law_mix.ok sc__law_mix (fun vs H Q E h => ?_) (fun cdv A outer s H vs Q E hr h => ?_)
  · obtain ⟨c, k, rfl, _⟩ := h
    rfl
  · obtain ⟨c, k, rfl, h0, h1, q⟩ := h
    refine ⟨_, ((pss_cons (ps_set (i := 2) sc__law_mix.nd rfl (Or.inl rfl) (pe_op op_mod (pe_op op_add (pe_op op_add (pe_op op_mul (pe_callTy Gx.cr_int1 (by rfl) T.z_int bt_int (pa_cons (pv 0) pa_nil)) pe_int) (pe_op op_mul (pv 1) pe_int)) pe_int) pe_int))
  (pss_cons (ps_set (i := 3) sc__law_mix.nd rfl (Or.inl rfl) (pe_op op_mod (pe_op op_add (pe_op op_add (pe_op op_mul (pv 2) (pv 2)) (pe_op op_mul pe_int (pv 2))) (pe_op op_mul (pe_op op_mul (pv 1) (pv 1)) pe_int)) pe_int))
  (pss_one (ps_ret (pe_op op_fdiv (pe_op op_mod (pe_op op_add (pe_op op_mul (pv 3) pe_int) pe_int) pe_int) pe_int)))))), ?_⟩
    rw [st__law_mix]
    walk_at "g"
    exact q
/-- a digit -/
def Dig (xs : List Int) : Prop := ∀ x ∈ xs, 0 ≤ x ∧ x < 60
theorem Dig.snoc {xs : List Int} {z : Int} (h : Dig xs) (a : 0 ≤ z) (b : z < 60) : Dig (xs ++ [z]) := fun x hx => by
  rcases List.mem_append.mp hx with h1 | h1
  · exact h x h1
  · cases List.mem_singleton.mp h1
    exact ⟨a, b⟩
def sp_stream (K : PySem.W.Frag) : Sp := fun vs H Q _ => ∃ (a : Addr) (ns : List Int) (many : Int), vs = [.ref a, .int many] ∧ SqL K H a (ns.map V.int) ∧ ns.length ≤ 63 ∧ 0 ≤ many ∧ many ≤ 1000 ∧
  ∀ H' p xs, Same H H' → H p = none → H' p = some (.lst (xs.map V.int)) → (xs.length : Int) = many → Dig xs → Q (.ref p) H'
theorem G__law_stream (T : Txt K mg w) : FnOk P w K mg base CX0 2 T.f__law_stream T.fd__law_stream ["script", "many"] (sp_stream K) := by
  have G__law_mix := G__law_mix (P := P) (w := w) (base := base) T
  refine T.F__law_stream.ok sc__law_stream (fun vs H Q E h => ?_) (fun cdv A outer s H vs Q E hr h => ?_)
  · obtain ⟨a, ns, many, rfl, _⟩ := h
    rfl
  · obtain ⟨a, ns, many, rfl, hS, hlen, h0, h1, q⟩ := h
    refine ⟨_, ((pss_cons (ps_set (i := 2) sc__law_stream.nd rfl (Or.inl rfl) pe_int)
  (C8.pss_cut (ps_if (pt_cmpR op_gt (pe_callB Gx.cr_lenQ (by rfl) T.z_len bt_len (pa_cons (pv 0) pa_nil)) pe_int (nomark _))
  (pss_one (ps_set (i := 2) sc__law_stream.nd rfl (Or.inl rfl) (pe_callB Gx.cr_abs (by rfl) T.z_abs bt_abs (pa_cons (pe_callTy Gx.cr_int1 (by rfl) T.z_int bt_int (pa_cons (pe_ix ix_list (pv 0) pe_int (fun _ _ => rfl)) pa_nil)) pa_nil))))
  pss_nil)
  (C8.pss_cut (ps_if (pt_cmpR op_lt (pv 2) (pe_op op_pow pe_int pe_int) (nomark _))
  (pss_one (ps_set (i := 2) sc__law_stream.nd rfl (Or.inl rfl) pe_int))
  pss_nil)
  (pss_cons (ps_set (i := 3) sc__law_stream.nd rfl (Or.inl rfl) (pe_lst pa_nil))
  (pss_cons (ps_for PassesOwn.never rfl (pi_range1 rfl T.z_range (pa_cons (pv 1) pa_nil)) (pg_name (i := 4) sc__law_stream.nd rfl (Or.inl rfl))
  (pss_one (ps_if (pt_cmpR op_gt (pv 2) pe_int (nomark _))
  (pss_cons (ps_expr (pe_bm PySem.F.plainAttrs_list PySem.F.slot_list_append PySem.F.type_list_append mt_append (pv 3) (pa_cons (pe_op op_mod (pv 2) pe_int) pa_nil)))
  (pss_one (ps_set (i := 2) sc__law_stream.nd rfl (Or.inl rfl) (pe_op op_fdiv (pv 2) pe_int))))
  (pss_cons (ps_set (i := 5) sc__law_stream.nd rfl (Or.inl rfl) pe_int)
  (C8.pss_cut (ps_if (pt_cmpR op_gt (pe_callB Gx.cr_lenQ (by rfl) T.z_len bt_len (pa_cons (pv 0) pa_nil)) pe_int (nomark _))
  (pss_one (ps_set (i := 5) sc__law_stream.nd rfl (Or.inl rfl) (pe_ix ix_list (pv 0) (pe_op op_mod (pv 4) (pe_callB Gx.cr_lenQ (by rfl) T.z_len bt_len (pa_cons (pv 0) pa_nil))) (fun _ _ => rfl))))
  pss_nil)
  (pss_one (ps_expr (pe_bm PySem.F.plainAttrs_list PySem.F.slot_list_append PySem.F.type_list_append mt_append (pv 3) (pa_cons (pe_op op_mod (pe_call G__law_mix (hr.mono (by first | decide | omega)) (by rfl) T.g__law_mix T.F__law_mix.kp T.b__law_mix .nil pass0 (pa_cons (pv 5) (pa_cons (pv 4) pa_nil))) pe_int) pa_nil)))))))))
  (pss_one (ps_ret (pv 3))))))))), ?_⟩
    rw [st__law_stream]
    try dsimp only [cxOf]
    walk_at "g"
    have hS' : ∀ H', Same H H' → SqL K H' a (ns.map V.int) := fun H' e => e.seq hS
    -- the first cell
    refine ⟨fun σ H1 => ∃ rest : Int, 0 ≤ rest ∧ H1 = H ∧ σ = [some (.ref a), some (.int many), some (.int rest), none, none, none], ?_, ?_⟩
    · walk_at "g"
      refine Gx.iteD (fun e => ?_) (fun e => ?_)
      · walk_at "g"
        exact ⟨_, by split <;> omega, rfl, rfl⟩
      · walk_at "g"
        exact ⟨0, by omega, rfl, rfl⟩
    · rintro σ H1 ⟨rest, hr0, rfl, rfl⟩
      walk_at "g"
      refine ⟨fun σ H2 => ∃ rest : Int, 0 ≤ rest ∧ H2 = H1 ∧ σ = [some (.ref a), some (.int many), some (.int rest), none, none, none], ?_, ?_⟩
      · walk_at "g"
        refine Gx.iteD (fun e => ?_) (fun e => ?_)
        · walk_at "g"
          exact ⟨0, by omega, rfl, rfl⟩
        · walk_at "g"
          exact ⟨rest, hr0, rfl, rfl⟩
      · rintro σ H2 ⟨rest, hr0, rfl, rfl⟩
        walk_at "g"
        refine Gx.newD (by decide) (fun p H3 E3 => ?_)
        walk_at "g"
        refine ⟨_, rfl, by omega, by omega, for_range (fun i σ H4 => ∃ (rest : Int) (y z : Option V) (xs : List Int), 0 ≤ rest ∧ σ = [some (.ref a), some (.int many), some (.int rest), some (.ref p), y, z] ∧ Same H2 H4 ∧
          H4 p = some (.lst (xs.map V.int)) ∧ xs.length = i ∧ Dig xs) ⟨rest, none, none, [], hr0, rfl, E3.same, E3.at_, rfl, fun x hx => by cases hx⟩ ?_ ?_⟩
        · rintro i σ H4 hi ⟨rest, y, z, xs, h2, rfl, s4, e4, l4, d4⟩
          walk_at "g"
          have hS4 : SqL K H4 a (ns.map V.int) := hS' _ s4
          refine Gx.iteD (fun e => ?_) (fun e => ?_)
          · walk_at "g"
            exact ⟨rest / 60, _, _, xs ++ [rest % 60], by omega, rfl, Gx.Same.put s4 E3.fresh, upd_same, by simp [l4], d4.snoc (by omega) (by omega)⟩
          · walk_at "g"
            refine ⟨fun σ H5 => ∃ cell : Int, H5 = H4 ∧ σ = [some (.ref a), some (.int many), some (.int rest), some (.ref p), some (.int (0 + i)), some (.int cell)], ?_, ?_⟩
            · walk_at "g"
              refine Gx.iteD (fun e => ?_) (fun e => ?_)
              · walk_at "g"
                exact ⟨_, rfl, rfl⟩
              · walk_at "g"
                exact ⟨_, rfl, rfl⟩
            · rintro σ H5 ⟨cell, rfl, rfl⟩
              walk_at "g"
              refine ⟨_, _, rfl, by omega, by omega, ?_⟩
              walk_at "g"
              exact ⟨rest, _, _, xs ++ [mix cell (0 + i) % 60], by omega, rfl, Gx.Same.put s4 E3.fresh, upd_same, by simp [l4], d4.snoc (by omega) (by omega)⟩
        · rintro σ H4 ⟨rest, y, z, xs, h2, rfl, s4, e4, l4, d4⟩
          walk_at "g"
          exact q H4 p xs s4 E3.fresh e4 (by omega) d4
def pick (xs : List Int) (at_ many : Int) : Int := xs.getD (at_ % xs.length).toNat 0 % many
theorem pick_0 (xs : List Int) (a : Int) {m : Int} (h : 0 < m) : 0 ≤ pick xs a m := Int.emod_nonneg _ (by omega)
theorem pick_lt (xs : List Int) (a : Int) {m : Int} (h : 0 < m) : pick xs a m < m := Int.emod_lt_of_pos _ h
def sp_pick (K : PySem.W.Frag) : Sp := fun vs H Q _ => ∃ (a : Addr) (xs : List Int) (i m : Int), vs = [.ref a, .int i, .int m] ∧ SqL K H a (xs.map V.int) ∧ 0 < xs.length ∧ 0 < m ∧ Q (.int (pick xs i m)) H
theorem G__law_pick (T : Txt K mg w) : FnOk P w K mg base CX0 1 T.f__law_pick T.fd__law_pick ["numbers", "at", "many"] (sp_pick K) := by
  refine T.F__law_pick.ok sc__law_pick (fun vs H Q E h => ?_) (fun cdv A outer s H vs Q E hr h => ?_)
  · obtain ⟨a, ns, i, m, rfl, _⟩ := h
    rfl
  · obtain ⟨a, xs, i, m, rfl, hS, hl, hm, q⟩ := h
    refine ⟨_, ((pss_one (ps_ret (pe_op op_mod (pe_callTy Gx.cr_int1 (by rfl) T.z_int bt_int (pa_cons (pe_ix ix_list (pv 0) (pe_op op_mod (pe_callTy Gx.cr_int1 (by rfl) T.z_int bt_int (pa_cons (pv 1) pa_nil)) (pe_callB Gx.cr_lenQ (by rfl) T.z_len bt_len (pa_cons (pv 0) pa_nil))) (fun _ _ => rfl)) pa_nil)) (pv 2))))), ?_⟩
    rw [st__law_pick]
    try dsimp only [cxOf]
    walk_at "g"
    exact q
def wide (xs : List Int) (i m : Int) : Int := (pick xs i 60 * 60 + pick xs (i + 1) 60) % m
theorem wide_0 (xs : List Int) (a : Int) {m : Int} (h : 0 < m) : 0 ≤ wide xs a m := Int.emod_nonneg _ (by omega)
theorem wide_lt (xs : List Int) (a : Int) {m : Int} (h : 0 < m) : wide xs a m < m := Int.emod_lt_of_pos _ h
def sp_wide (K : PySem.W.Frag) : Sp := fun vs H Q _ => ∃ (a : Addr) (xs : List Int) (i m : Int), vs = [.ref a, .int i, .int m] ∧ SqL K H a (xs.map V.int) ∧ 0 < xs.length ∧ 0 < m ∧ Q (.int (wide xs i m)) H
theorem G__law_wide (T : Txt K mg w) : FnOk P w K mg base CX0 2 T.f__law_wide T.fd__law_wide ["numbers", "at", "many"] (sp_wide K) := by
  have G__law_pick := G__law_pick (P := P) (w := w) (base := base) T
  refine T.F__law_wide.ok sc__law_wide (fun vs H Q E h => ?_) (fun cdv A outer s H vs Q E hr h => ?_)
  · obtain ⟨a, ns, i, m, rfl, _⟩ := h
    rfl
  · obtain ⟨a, xs, i, m, rfl, hS, hl, hm, q⟩ := h
    refine ⟨_, ((pss_one (ps_ret (pe_op op_mod (pe_callTy Gx.cr_int1 (by rfl) T.z_int bt_int (pa_cons (pe_op op_add (pe_op op_mul (pe_call G__law_pick (hr.mono (by first | decide | omega)) (by rfl) T.g__law_pick T.F__law_pick.kp T.b__law_pick .nil pass0 (pa_cons (pv 0) (pa_cons (pv 1) (pa_cons pe_int pa_nil)))) pe_int) (pe_call G__law_pick (hr.mono (by first | decide | omega)) (by rfl) T.g__law_pick T.F__law_pick.kp T.b__law_pick .nil pass0 (pa_cons (pv 0) (pa_cons (pe_op op_add (pv 1) pe_int) (pa_cons pe_int pa_nil))))) pa_nil)) (pv 2))))), ?_⟩
    rw [st__law_wide]
    try dsimp only [cxOf]
    walk_at "g"
    refine ⟨a, xs, _, _, rfl, hS, hl, by omega, ?_⟩
    walk_at "g"
    refine ⟨a, xs, _, _, rfl, hS, hl, by omega, ?_⟩
    walk_at "g"
    exact q
end
end K39
namespace K39
open PySem PySem.Spec PyProof.Rows L2
local macro_rules | `(tactic| walk_at "con") => `(tactic| first | fail)
section
variable {P : Program} {w : World} {K : PySem.W.Frag} {mg : Str → Option Value} {base : Heap}
def oV : Option Int → V := fun o => o.elim .non V.int
def rkF : Nat → List (Option Int) → List (Nat × Int)
  | _, [] => []
  | i, none :: r => rkF (i + 1) r
  | i, some x :: r => (i, x) :: rkF (i + 1) r
def dkv (ps : List (Nat × Int)) : List (Key × V) := ps.map fun p => (.inl (p.1 : Nat), .int p.2)
theorem rkF_app : ∀ (a b : List (Option Int)) (i : Nat), rkF i (a ++ b) = rkF i a ++ rkF (i + a.length) b
  | [], _, _ => rfl
  | none :: a, b, i => by rw [List.cons_append, rkF, rkF, rkF_app a b (i + 1), List.length_cons]; congr 2; omega
  | some x :: a, b, i => by rw [List.cons_append, rkF, rkF, rkF_app a b (i + 1), List.length_cons, List.cons_append]; congr 3; omega
theorem rkF_lt : ∀ (a : List (Option Int)) (i : Nat), ∀ p ∈ rkF i a, i ≤ p.1 ∧ p.1 < i + a.length ∧ a[p.1 - i]? = some (some p.2)
  | [], _, _, h => by cases h
  | none :: a, i, p, h => by
    have := rkF_lt a (i + 1) p h
    rw [List.length_cons, show p.1 - i = (p.1 - (i + 1)) + 1 by omega, List.getElem?_cons_succ]
    exact ⟨by omega, by omega, this.2.2⟩
  | some x :: a, i, p, h => by
    rw [rkF] at h
    rcases List.mem_cons.mp h with rfl | h
    · refine ⟨Nat.le_refl _, by rw [List.length_cons]; show i < _; omega, ?_⟩
      show (some x :: a)[i - i]? = _
      rw [Nat.sub_self]
      rfl
    · have := rkF_lt a (i + 1) p h
      rw [List.length_cons, show p.1 - i = (p.1 - (i + 1)) + 1 by omega, List.getElem?_cons_succ]
      exact ⟨by omega, by omega, this.2.2⟩
theorem rkF_asc : ∀ (a : List (Option Int)) (i : Nat), ((rkF i a).map (·.1)).Pairwise (· < ·)
  | [], _ => .nil
  | none :: a, i => rkF_asc a (i + 1)
  | some x :: a, i => by
    rw [rkF, List.map_cons, List.pairwise_cons]
    refine ⟨fun y hy => ?_, rkF_asc a (i + 1)⟩
    obtain ⟨p, hp, rfl⟩ := List.mem_map.mp hy
    have := rkF_lt a (i + 1) p hp
    show i < p.1
    omega
theorem rkF_len : ∀ (a : List (Option Int)) (i : Nat), (rkF i a).length ≤ a.length
  | [], _ => Nat.le_refl _
  | none :: a, i => by have := rkF_len a (i + 1); rw [rkF, List.length_cons]; omega
  | some x :: a, i => by have := rkF_len a (i + 1); rw [rkF, List.length_cons, List.length_cons]; omega
theorem rkF_vals : ∀ (a : List (Option Int)) (i : Nat), (rkF i a).map (·.2) = a.filterMap id
  | [], _ => rfl
  | none :: a, i => by rw [rkF, rkF_vals a (i + 1)]; rfl
  | some x :: a, i => by rw [rkF, List.map_cons, rkF_vals a (i + 1)]; rfl
theorem dkv_app (a b : List (Nat × Int)) : dkv (a ++ b) = dkv a ++ dkv b := List.map_append
theorem dkv_not : ∀ {ps : List (Nat × Int)} {k : Nat}, (∀ p ∈ ps, p.1 ≠ k) → valV (dkv ps) (.inl (k : Nat)) = none
  | [], _, _ => rfl
  | p :: ps, k, h => by
    show valV ((_, _) :: dkv ps) _ = none
    rw [valV_neg (fun e => by injection e with e; exact h p List.mem_cons_self (by omega))]
    exact dkv_not fun q hq => h q (List.mem_cons_of_mem _ hq)
theorem dkv_put {ps : List (Nat × Int)} {k : Nat} {x : Int} (h : ∀ p ∈ ps, p.1 ≠ k) : putK (dkv ps) (.inl (k : Nat)) (.int x) = dkv (ps ++ [(k, x)]) := by
  rw [putK_new _ (dkv_not h), dkv_app]
  rfl
theorem dkv_get : ∀ {ps : List (Nat × Int)} {k : Nat} {x : Int}, (ps.map (·.1)).Pairwise (· < ·) → (k, x) ∈ ps → valV (dkv ps) (.inl (k : Nat)) = some (.int x)
  | [], _, _, _, h => by cases h
  | p :: ps, k, x, hp, h => by
    show valV ((.inl (p.1 : Nat), .int p.2) :: dkv ps) _ = _
    rw [List.map_cons, List.pairwise_cons] at hp
    rcases List.mem_cons.mp h with rfl | h
    · exact valV_pos rfl
    · have := hp.1 k (List.mem_map.mpr ⟨_, h, rfl⟩)
      rw [valV_neg (fun e => by injection e with e; omega)]
      exact dkv_get hp.2 h
/-- an alignment that can be: no negative number, none twice -/
def Okay (its : List (Option Int)) : Prop := (its.filterMap id).Nodup ∧ ∀ x ∈ its.filterMap id, 0 ≤ x
instance (its : List (Option Int)) : Decidable (Okay its) := by unfold Okay; infer_instance
def sgP (f : Bool) (ps : List (Nat × Int)) : List (Nat × Int) := ps.map fun p => (p.1, if f then -p.2 else p.2)
def sp_ranks (K : PySem.W.Frag) (B : Addr) : Sp := fun vs H Q E => ∃ (a : Addr) (its : List (Option Int)) (f : Bool), vs = [.ref a, .bl f] ∧ SqT K H a (its.map oV) ∧ its.length ≤ 1000 ∧
  (Okay its → ∀ H' d, Same H H' → H d = none → H' d = some (.dK (dkv (sgP f (rkF 0 its)))) → Q (.ref d) H') ∧ (¬ Okay its → ∀ H', Same H H' → E (.ref B) none H')
theorem G_ranks_of (T : Txt K mg w) : FnOk P w K mg base (L2.CX P w) 1 T.f_ranks_of T.fd_ranks_of ["alignment", "falling"] (sp_ranks K T.a_BadAlignment) := by
  refine T.F_ranks_of.okX sc_ranks_of (fun vs H Q E h => ?_) (fun cdv A outer s H vs Q E hr h => ?_)
  · obtain ⟨a, its, f, rfl, _⟩ := h
    rfl
  · obtain ⟨a, its, f, rfl, hS, hl, q1, q2⟩ := h
    refine ⟨_, ((pss_cons (Gx.ps_setDc (i := 2) (own := [("at", 3), ("old", 4)]) (g := (gTup K 2 (gCons (gName 3) (gCons (gName 4) gNil))))  rfl sc_ranks_of.nd rfl rfl (Gx.sw_dict rfl rfl rfl (by decide +kernel)) (Gx.pi_enumT (by rfl) T.z_enumerate (pa_cons (pv 0) pa_nil)) (blkOk_by (N := ["alignment", "falling", "ranks", "at", "old", "olds"]) (sc := defScope s_ranks_of) (by decide +kernel)) (fun _ _ _ _ _ => (pg_tup rfl (pgs_cons (pg_name (i := 3) sc_ranks_of.nd rfl (Or.inl rfl)) (pgs_cons (pg_name (i := 4) sc_ranks_of.nd rfl (Or.inl rfl)) pgs_nil)))) (fun _ _ _ _ _ => (pts_one (pt_cmpR Gx.op_notNG (pv 4) pe_non (nomark _)))) (fun _ _ _ _ _ => (pv 3)) (fun _ _ _ _ _ => (pv 4)))
  (pss_cons (ps_set (i := 5) sc_ranks_of.nd rfl (Or.inl rfl) (Gx.pe_listVals rfl (pv 2) (by rfl) T.z_list bt_list))
  (pss_cons (ps_if (PW.pt (pw_or (pt_cmpR op_ne (Gx.pe_lenSet (by rfl) T.z_len (by rfl) T.z_set (pv 5)) (pe_callB Gx.cr_lenQ (by rfl) T.z_len bt_len (pa_cons (pv 5) pa_nil)) (nomark _)) (pw_or1 (pt_val (pe_callB (cr_any rfl) (by rfl) T.z_any bt_any (pa_cons (pe_lc (own := [("old", 4)]) (g := (gName 4)) (tt := tYes) (by rfl) sc_ranks_of.nd (pi_list (pv 5)) (blkOk_by (N := ["alignment", "falling", "ranks", "at", "old", "olds"]) (sc := defScope s_ranks_of) (by decide +kernel)) (fun _ _ _ _ _ => (pg_name (i := 4) sc_ranks_of.nd rfl (Or.inl rfl))) (fun _ _ _ _ _ => pts_nil) (fun _ _ _ _ _ => (pe_cmpR op_lt (pv 4) pe_int (nomark _)))) pa_nil))))))
  (pss_one (ps_raise rfl (takes_of rfl rfl rfl rfl) (Gx.pmk_own0 PySem.F.excBase_ValueError T.x_BadAlignment T.g_BadAlignment T.k_BadAlignment (raises_own T.bP_BadAlignment T.tP_BadAlignment) rfl)))
  pss_nil)
  (pss_cons (ps_if (pt_val (pv 1))
  (pss_one (ps_ret (pe_lock (pe_dc (own := [("at", 3), ("old", 4)]) (g := (gTup K 2 (gCons (gName 3) (gCons (gName 4) gNil)))) (tt := tYes) rfl sc_ranks_of.nd (pi_items (pv 2)) (blkOk_by (N := ["alignment", "falling", "ranks", "at", "old", "olds"]) (sc := defScope s_ranks_of) (by decide +kernel)) (fun _ _ _ _ _ => (pg_tup rfl (pgs_cons (pg_name (i := 3) sc_ranks_of.nd rfl (Or.inl rfl)) (pgs_cons (pg_name (i := 4) sc_ranks_of.nd rfl (Or.inl rfl)) pgs_nil)))) (fun _ _ _ _ _ => pts_nil) (fun _ _ _ _ _ => (pv 3)) (fun _ _ _ _ _ => (pe_un un_neg (pv 4)))))))
  pss_nil)
  (pss_one (ps_ret (pv 2)))))))), ?_⟩
    rw [st_ranks_of]
    try dsimp only [cxOf]
    walk_at "g"
    refine ⟨a, _, rfl, hS, fun D nD => Gx.dc_it Gx.walk_enumT (fun i H1 => Same H H1 ∧ H1 D = some (.dK (dkv (rkF 0 (its.take i))))) ⟨Gx.Same.put (Same.refl H) nD, upd_same⟩ (fun i H1 _ z => z.1.seqT hS) ?_ ?_⟩
    · rintro i x H1 H2 hi ⟨s1, e1⟩ ⟨t, y, z, rfl, nt, rfl, ey, ez⟩
      rw [List.length_map] at hi
      cases ey
      dsimp only at ez
      rw [List.getElem?_map, List.getElem?_eq_getElem hi] at ez
      obtain rfl := Option.some.inj ez
      have hlt : ∀ p ∈ rkF 0 (its.take i), p.1 ≠ i := fun p hp => by
        have := rkF_lt _ _ p hp
        rw [List.length_take] at this
        omega
      have hlen := rkF_len (its.take i) 0
      rw [List.length_take] at hlen
      have et : its.take (i + 1) = its.take i ++ [its[i]] := by rw [List.take_add_one, List.getElem?_eq_getElem hi]; rfl
      have n2 : t ≠ D := fun z => by rw [z, e1] at nt; cases nt
      have s2 : Same H1 (upd H1 t (.tup [.int (i : Nat), oV its[i]])) := Gx.Same.put (Same.refl H1) nt
      walk_at "g"
      refine ⟨t, _, rfl, SqT.of upd_same, rfl, ?_⟩
      walk_at "g"
      refine ⟨rfl, ?_⟩
      cases hy : its[i] with
      | none =>
        rw [hy] at et s2
        rw [show oV none = V.non from rfl] at s2 ⊢
        walk_at "g"
        refine ⟨s1.trans s2, ?_⟩
        rw [et, rkF_app]
        simp only [rkF, List.append_nil]
        exact s2 _ _ e1
      | some v =>
        rw [hy] at et s2
        rw [show oV (some v) = .int v from rfl]
        walk_at "g"
        refine ⟨_, .inl (i : Nat), rfl, s2 _ _ e1, by rw [sizeLine_eq, dkv, List.length_map]; omega, Gx.Same.put (s1.trans s2) nD, ?_⟩
        rw [upd_same, dkv_put hlt, et, rkF_app, List.length_take]
        rw [show min i its.length = i by omega, Nat.zero_add]
        rfl
    · rintro H1 ⟨s1, e1⟩
      rw [List.length_map, List.take_length] at e1
      walk_at "g"
      refine ⟨D, _, rfl, e1, fun O nO => ?_⟩
      have eo : (dkv (rkF 0 its)).map (·.2) = (its.filterMap id).map V.int := by
        rw [← rkF_vals its 0, dkv, List.map_map, List.map_map]
        rfl
      rw [eo]
      have hvl : (its.filterMap id).length ≤ 1000 := Nat.le_trans (List.length_filterMap_le ..) hl
      have s2 : Same H1 (upd H1 O (.lst ((its.filterMap id).map V.int))) := Gx.Same.put (Same.refl H1) nO
      have eO : (upd H1 O (.lst ((its.filterMap id).map V.int))) O = some (.lst ((its.filterMap id).map V.int)) := upd_same
      generalize upd H1 O (.lst ((its.filterMap id).map V.int)) = H2 at *
      have hO := SqL.of (K := K) eO
      have hkv := s2 _ _ e1
      have s12 := s1.trans s2
      walk_at "g"
      refine ⟨O, _, rfl, hO, by omega, ?_⟩
      walk_at "g"
      have iffn : decide (((its.filterMap id).eraseDups.length : Int) = ((its.filterMap id).length : Nat)) = decide ((its.filterMap id).Nodup) := decide_eq_decide.mpr ⟨fun h => Gx.edups_nodup.mp (by omega), fun h => by rw [Gx.edups_nodup.mpr h]⟩
      rw [iffn]
      by_cases hnd : (its.filterMap id).Nodup
      · rw [decide_eq_true hnd]
        walk_at "g"
        refine ⟨⟨_, hO⟩, fun D2 nD2 => lc_list (K := K) (a := O) (xs := (its.filterMap id).map V.int) (fun i H' => Same H2 H' ∧ H' D2 = some (.lst ((((its.filterMap id).take i).map fun x => decide (x < 0)).map V.bl))) ⟨Gx.Same.put (Same.refl H2) nD2, upd_same⟩ (fun i H' _ z => z.1.seq hO) ?_ ?_⟩
        · rintro i x H3 hi ⟨s3, e3⟩
          rw [List.getElem?_map] at hi
          obtain ⟨v, hv, rfl⟩ := Option.map_eq_some_iff.mp hi
          walk_at "g"
          refine ⟨rfl, ?_⟩
          walk_at "g"
          refine ⟨_, e3, Gx.lineL (by rw [List.length_map, List.length_map, List.length_take]; omega), Gx.Same.put s3 nD2, ?_⟩
          rw [upd_same, List.take_add_one, hv, Option.toList_some, List.map_append, List.map_append]
          rfl
        · rintro H3 ⟨s3, e3⟩
          rw [List.length_map, List.take_length] at e3
          walk_at "g"
          refine ⟨D2, _, rfl, SqL.of e3, ?_⟩
          walk_at "g"
          have iffa : (((its.filterMap id).map fun x => decide (x < 0)).any id) = !decide (Okay its) := by
            rw [List.any_map]
            by_cases ho : Okay its
            · rw [decide_eq_true ho]
              refine List.any_eq_false.mpr fun x hx => ?_
              have := ho.2 x hx
              simp
              omega
            · rw [decide_eq_false ho]
              refine List.any_eq_true.mpr ?_
              apply Classical.byContradiction
              intro hno
              refine ho ⟨hnd, fun x hx => ?_⟩
              apply Classical.byContradiction
              intro hx2
              exact hno ⟨x, hx, by simp; omega⟩
          rw [iffa]
          refine Gx.iteDn (fun ho => ?_) (fun ho => ?_)
          · exact q2 ho H3 (s12.trans s3)
          · walk_at "g"
            cases f with
            | false =>
              walk_at "g"
              refine q1 ho H3 D (s12.trans s3) nD ?_
              rw [s3 _ _ hkv]
              simp [sgP]
            | true =>
              walk_at "g"
              have hk3 := s3 _ _ hkv
              have hpl := rkF_len its 0
              refine ⟨D, _, hk3, trivial, fun od => ?_⟩
              have nL : D2 ≠ D := fun z => by rw [z, hkv] at nD2; cases nD2
              have s4 : ∀ b o, b ≠ D → H3 b = some o → upd H3 D (.frz od (.dK (dkv (rkF 0 its)))) b = some o := fun b o hb e => by rw [upd_ne hb]; exact e
              have eL : upd H3 D (.frz od (.dK (dkv (rkF 0 its)))) D = some (.frz od (.dK (dkv (rkF 0 its)))) := upd_same
              have hH4 : ∀ b, b ≠ D → upd H3 D (.frz od (.dK (dkv (rkF 0 its)))) b = H3 b := fun b hb => upd_ne hb
              generalize upd H3 D (.frz od (.dK (dkv (rkF 0 its)))) = H4 at *
              walk_at "g"
              refine ⟨D, od, _, rfl, eL, fun D3 nD3 => Gx.dc_it walk_items (fun i H' => Same H4 H' ∧ H' D3 = some (.dK (dkv (sgP true ((rkF 0 its).take i))))) ⟨Gx.Same.put (Same.refl H4) nD3, upd_same⟩ (fun i H' _ z => z.1 _ _ eL) ?_ ?_⟩
              · rintro i x H5 H6 hi ⟨s5, e5⟩ ⟨t, y, z, rfl, nt, rfl, ey, ez⟩
                have hi' : i < (rkF 0 its).length := by rw [dkv, List.length_map] at hi; exact hi
                generalize hps : rkF 0 its = ps at *
                have hasc := rkF_asc its 0
                rw [hps] at hasc
                have epi : (dkv ps)[i]? = some (.inl (ps[i].1 : Nat), .int ps[i].2) := by rw [dkv, List.getElem?_map, List.getElem?_eq_getElem hi']; rfl
                dsimp only at ey ez
                rw [epi] at ey ez
                cases ey
                cases ez
                have s6 : Same H5 (upd H5 t (.tup [kV (.inl (ps[i].1 : Nat)), .int ps[i].2])) := Gx.Same.put (Same.refl H5) nt
                have hne : ∀ p ∈ sgP true (ps.take i), p.1 ≠ ps[i].1 := fun p hp => by
                  obtain ⟨p', hp', rfl⟩ := List.mem_map.mp hp
                  obtain ⟨j, hj, rfl⟩ := List.mem_iff_getElem.mp hp'
                  rw [List.length_take] at hj
                  rw [List.getElem_take]
                  have := List.pairwise_iff_getElem.mp hasc j i (by rw [List.length_map]; omega) (by rw [List.length_map]; omega) (by omega)
                  rw [List.getElem_map, List.getElem_map] at this
                  show ps[j].1 ≠ ps[i].1
                  omega
                have et : ps.take (i + 1) = ps.take i ++ [ps[i]] := by rw [List.take_add_one, List.getElem?_eq_getElem hi']; rfl
                walk_at "g"
                refine ⟨t, _, rfl, SqT.of upd_same, rfl, ?_⟩
                walk_at "g"
                refine ⟨rfl, ?_⟩
                walk_at "g"
                refine ⟨_, .inl (ps[i].1 : Nat), rfl, s6 _ _ e5, by rw [sizeLine_eq, dkv, List.length_map, sgP, List.length_map, List.length_take]; omega, Gx.Same.put (s5.trans s6) nD3, ?_⟩
                rw [upd_same, dkv_put hne, et, sgP, sgP, List.map_append]
                rfl
              · rintro H5 ⟨s5, e5⟩
                have n3 : D3 ≠ D := fun z => by rw [z, eL] at nD3; cases nD3
                refine ⟨s5 _ _ eL, ?_⟩
                have s35 : Same H3 (upd H5 D (.dK (dkv (rkF 0 its)))) := fun b o e => by
                  by_cases hb : b = D
                  · subst hb
                    rw [upd_same, ← e, hk3]
                  · rw [upd_ne hb]
                    exact s5 _ _ (s4 b o hb e)
                have nH : H D3 = none := by
                  cases hh : H D3 with
                  | none => rfl
                  | some o => 
                    have := s4 D3 o n3 ((s12.trans s3) _ _ hh)
                    rw [nD3] at this
                    cases this
                refine q1 ho _ D3 ((s12.trans s3).trans s35) nH ?_
                rw [upd_ne n3, e5]
                rw [show (dkv (rkF 0 its)).length = (rkF 0 its).length by rw [dkv, List.length_map], List.take_length]
      · rw [decide_eq_false hnd]
        walk_at "g"
        exact q2 (fun z => hnd z.1) H2 s12
end
end K39
namespace K39
open PySem PySem.Spec PyProof.Rows L2
local macro_rules | `(tactic| walk_at "con") => `(tactic| first | fail)
section
variable {P : Program} {w : World} {K : PySem.W.Frag} {mg : Str → Option Value} {base : Heap}
/-! piles -/
def rowOf (done : List Nat) (pi : Nat → Nat) (n : Nat) : List Nat := done.filter fun x => pi x == n
structure Piles (r : Nat → Int) (done : List Nat) (pi : Nat → Nat) (bf : Nat → Option Nat) (N : Nat) : Prop where
  asc : done.Pairwise (· < ·)
  inj : ∀ x ∈ done, ∀ y ∈ done, r x = r y → x = y
  lt : ∀ x ∈ done, pi x < N
  ne : ∀ n, n < N → ∃ x ∈ done, pi x = n
  f : ∀ x ∈ done, ∀ y ∈ done, x < y → r x < r y → pi x < pi y
  e : ∀ y ∈ done, (pi y = 0 ∧ bf y = none) ∨ ∃ x ∈ done, bf y = some x ∧ x < y ∧ r x < r y ∧ pi x + 1 = pi y
theorem Piles.nil (r : Nat → Int) (pi : Nat → Nat) (bf : Nat → Option Nat) : Piles r [] pi bf 0 := ⟨.nil, fun _ h => (by cases h), fun _ h => (by cases h), fun _ h => (by omega), fun _ h => (by cases h), fun _ h => (by cases h)⟩
theorem mem_rowOf {done : List Nat} {pi : Nat → Nat} {n x : Nat} : x ∈ rowOf done pi n ↔ x ∈ done ∧ pi x = n := by
  unfold rowOf
  rw [List.mem_filter, beq_iff_eq]
theorem rowOf_asc {done : List Nat} (h : done.Pairwise (· < ·)) (pi : Nat → Nat) (n : Nat) : (rowOf done pi n).Pairwise (· < ·) := h.filter _
theorem rowOf_len (done : List Nat) (pi : Nat → Nat) (n : Nat) : (rowOf done pi n).length ≤ done.length := List.length_filter_le ..
theorem snoc_of {α : Type} {l : List α} (h : l ≠ []) : ∃ ys t, l = ys ++ [t] := ⟨l.dropLast, l.getLast h, (List.dropLast_concat_getLast h).symm⟩
variable {r : Nat → Int} {done : List Nat} {pi : Nat → Nat} {bf : Nat → Option Nat} {N : Nat}
theorem Piles.same (h : Piles r done pi bf N) {x y : Nat} (hx : x ∈ done) (hy : y ∈ done) (e : pi x = pi y) (l : x ≤ y) : r y ≤ r x := by
  by_cases q : x = y
  · rw [q]; exact Int.le_refl _
  · apply Int.not_lt.mp
    intro z
    have := h.f x hx y hy (by omega) z
    omega
theorem Piles.top (h : Piles r done pi bf N) {n : Nat} (hn : n < N) : ∃ ys t, rowOf done pi n = ys ++ [t] ∧ t ∈ done ∧ pi t = n ∧ ∀ x ∈ done, pi x = n → x ≤ t ∧ r t ≤ r x := by
  obtain ⟨x0, h0, e0⟩ := h.ne n hn
  obtain ⟨ys, t, e⟩ := snoc_of (l := rowOf done pi n) (fun z => by have := mem_rowOf.mpr ⟨h0, e0⟩; rw [z] at this; cases this)
  have ht : t ∈ rowOf done pi n := by rw [e]; simp
  obtain ⟨t1, t2⟩ := mem_rowOf.mp ht
  refine ⟨ys, t, e, t1, t2, fun x hx ex => ?_⟩
  have hxt : x ≤ t := by
    have hm := mem_rowOf.mpr ⟨hx, ex⟩
    have ha := rowOf_asc h.asc pi n
    rw [e] at hm ha
    rw [List.pairwise_append] at ha
    rcases List.mem_append.mp hm with z | z
    · exact Nat.le_of_lt (ha.2.2 x z t (by simp))
    · rw [List.mem_singleton.mp z]; exact Nat.le_refl _
  exact ⟨hxt, h.same hx t1 (by omega) hxt⟩
theorem Piles.tops1 (h : Piles r done pi bf N) {n : Nat} (hn : n + 1 < N) {t u : Nat} (ht : ∀ x ∈ done, pi x = n → x ≤ t ∧ r t ≤ r x) (hu : u ∈ done) (eu : pi u = n + 1) : r t < r u := by
  rcases h.e u hu with ⟨z, _⟩ | ⟨x, hx, _, _, h2, h3⟩
  · omega
  · have := (ht x hx (by omega)).2
    omega
theorem Piles.tops (h : Piles r done pi bf N) : ∀ (k n : Nat), n + k + 1 < N → ∀ t u : Nat, (∀ x ∈ done, pi x = n → x ≤ t ∧ r t ≤ r x) → u ∈ done → pi u = n + k + 1 → r t < r u
  | 0, n, hn, t, u, ht, hu, eu => h.tops1 hn ht hu eu
  | k + 1, n, hn, t, u, ht, hu, eu => by
    rcases h.e u hu with ⟨z, _⟩ | ⟨x, hx, _, _, h2, h3⟩
    · omega
    · have := h.tops k n (by omega) t x ht hx (by omega)
      omega
/-- y is put on the pile n -/
theorem Piles.put (h : Piles r done pi bf N) {y n : Nat} (hy : ∀ x ∈ done, x < y) (hi : ∀ x ∈ done, r x ≠ r y) (hn : n ≤ N)
    (hlo : ∀ t, n ≤ N → 0 < n → (∀ x ∈ done, pi x = n - 1 → x ≤ t ∧ r t ≤ r x) → t ∈ done → pi t = n - 1 → r t < r y)
    (hhi : ∀ t, n < N → (∀ x ∈ done, pi x = n → x ≤ t ∧ r t ≤ r x) → t ∈ done → pi t = n → ¬ r t < r y) {b : Option Nat}
    (hb : (n = 0 ∧ b = none) ∨ ∃ t ∈ done, b = some t ∧ pi t + 1 = n ∧ ∀ x ∈ done, pi x = n - 1 → x ≤ t ∧ r t ≤ r x) :
    Piles r (done ++ [y]) (fun x => if x = y then n else pi x) (fun x => if x = y then b else bf x) (if n = N then N + 1 else N) := by
  have hne : ∀ x ∈ done, x ≠ y := fun x hx z => by have := hy x hx; omega
  refine ⟨?_, ?_, ?_, ?_, ?_, ?_⟩
  · rw [List.pairwise_append]
    exact ⟨h.asc, by simp, fun x hx z hz => by cases List.mem_singleton.mp hz; exact hy x hx⟩
  · intro x hx z hz e
    rcases List.mem_append.mp hx with hx | hx <;> rcases List.mem_append.mp hz with hz | hz
    · exact h.inj x hx z hz e
    · cases List.mem_singleton.mp hz; exact absurd e (hi x hx)
    · cases List.mem_singleton.mp hx; exact absurd e.symm (hi z hz)
    · rw [List.mem_singleton.mp hx, List.mem_singleton.mp hz]
  · intro x hx
    rcases List.mem_append.mp hx with hx | hx
    · have := h.lt x hx
      try dsimp only
      rw [if_neg (hne x hx)]
      split <;> omega
    · cases List.mem_singleton.mp hx
      try dsimp only
      rw [if_pos rfl]
      split <;> omega
  · intro m hm
    by_cases e : m = n
    · exact ⟨y, by simp, by rw [if_pos rfl, e]⟩
    · obtain ⟨x, hx, ex⟩ := h.ne m (by split at hm <;> omega)
      exact ⟨x, List.mem_append_left _ hx, by rw [if_neg (hne x hx), ex]⟩
  · intro x hx z hz l lr
    try dsimp only
    rcases List.mem_append.mp hx with hx | hx <;> rcases List.mem_append.mp hz with hz | hz
    · rw [if_neg (hne x hx), if_neg (hne z hz)]
      exact h.f x hx z hz l lr
    · cases List.mem_singleton.mp hz
      rw [if_neg (hne x hx), if_pos rfl]
      apply Nat.not_le.mp
      intro hle
      have hxN := h.lt x hx
      obtain ⟨ys, t, _, t1, t2, t3⟩ := h.top (n := n) (by omega)
      have hh := hhi t (by omega) t3 t1 t2
      by_cases q : pi x = n
      · have := (t3 x hx q).2
        omega
      · have := h.tops (pi x - n - 1) n (by omega) t x t3 hx (by omega)
        omega
    · cases List.mem_singleton.mp hx
      have := hy z hz
      omega
    · cases List.mem_singleton.mp hx
      cases List.mem_singleton.mp hz
      omega
  · intro x hx
    try dsimp only
    rcases List.mem_append.mp hx with hx | hx
    · rw [if_neg (hne x hx), if_neg (hne x hx)]
      rcases h.e x hx with z | ⟨u, hu, h1, h2, h3, h4⟩
      · exact .inl z
      · exact .inr ⟨u, List.mem_append_left _ hu, h1, h2, h3, by rw [if_neg (hne u hu)]; exact h4⟩
    · cases List.mem_singleton.mp hx
      rw [if_pos rfl, if_pos rfl]
      rcases hb with z | ⟨t, ht, e1, e2, e3⟩
      · exact .inl z
      · exact .inr ⟨t, List.mem_append_left _ ht, e1, hy t ht, hlo t hn (by omega) e3 ht (by omega), by rw [if_neg (hne t ht)]; exact e2⟩
theorem rowOf_put {y n m : Nat} (hy : ∀ x ∈ done, x < y) : rowOf (done ++ [y]) (fun x => if x = y then n else pi x) m = if m = n then rowOf done pi m ++ [y] else rowOf done pi m := by
  unfold rowOf
  rw [List.filter_append]
  have e : done.filter (fun x => (if x = y then n else pi x) == m) = done.filter fun x => pi x == m := List.filter_congr fun x hx => by rw [if_neg (by have := hy x hx; omega)]
  rw [e]
  by_cases h : m = n
  · subst h
    simp
  · rw [if_neg h]
    simp [Ne.symm h]
/-- the run that stays: back from t -/
inductive Back (bf : Nat → Option Nat) : Nat → List Nat → Prop
  | one {t : Nat} : bf t = none → Back bf t [t]
  | more {t u : Nat} {l : List Nat} : bf t = some u → Back bf u l → Back bf t (t :: l)
theorem Piles.back (h : Piles r done pi bf N) : ∀ (n t : Nat), pi t = n → t ∈ done → ∃ l, Back bf t l ∧ l.length = n + 1 ∧ (∀ x ∈ l, x ∈ done ∧ x ≤ t ∧ r x ≤ r t) ∧ l.Pairwise (fun a b => b < a ∧ r b < r a)
  | n, t, e, ht => by
    rcases h.e t ht with ⟨z1, z2⟩ | ⟨u, hu, e1, l1, l2, l3⟩
    · exact ⟨[t], .one z2, by simp; omega, fun x hx => by cases List.mem_singleton.mp hx; exact ⟨ht, Nat.le_refl _, Int.le_refl _⟩, by simp⟩
    · cases n with
      | zero => omega
      | succ n =>
        obtain ⟨l, hb, hl, hm, hp⟩ := h.back n u (by omega) hu
        refine ⟨t :: l, .more e1 hb, by rw [List.length_cons, hl], fun x hx => ?_, ?_⟩
        · rcases List.mem_cons.mp hx with rfl | hx
          · exact ⟨ht, Nat.le_refl _, Int.le_refl _⟩
          · have := hm x hx
            exact ⟨this.1, by omega, by omega⟩
        · rw [List.pairwise_cons]
          refine ⟨fun x hx => ?_, hp⟩
          have := hm x hx
          exact ⟨by omega, by omega⟩
/-- what staying gives -/
structure Told (r : Nat → Int) (os : List Nat) (ru : List Nat) (rows : List (List Nat)) : Prop where
  ex : ∃ pi bf N, Piles r os pi bf N ∧ ru.length = N ∧ (∀ x ∈ ru, x ∈ os) ∧ ru.Pairwise (fun a b => a < b ∧ r a < r b) ∧ rows = (List.range N).map (rowOf os pi)
end
end K39
namespace K39
open PySem PySem.Spec PyProof.Rows L2
local macro_rules | `(tactic| walk_at "con") => `(tactic| first | fail)
section
variable {P : Program} {w : World} {K : PySem.W.Frag} {mg : Str → Option Value} {base : Heap}
def rkI (its : List (Option Int)) (f : Bool) (x : Nat) : Int := match its[x]? with
  | some (some v) => if f then -v else v
  | _ => 0
def osI (its : List (Option Int)) : List Nat := (rkF 0 its).map (·.1)
theorem ps_at {its : List (Option Int)} {f : Bool} {i x : Nat} (h : (osI its)[i]? = some x) : (x, rkI its f x) ∈ sgP f (rkF 0 its) := by
  unfold osI at h
  rw [List.getElem?_map] at h
  obtain ⟨p, hp, rfl⟩ := Option.map_eq_some_iff.mp h
  have hm := List.mem_of_getElem? hp
  have := (rkF_lt its 0 p hm).2.2
  rw [Nat.sub_zero] at this
  refine List.mem_map.mpr ⟨p, hm, ?_⟩
  unfold rkI
  rw [this]
theorem sgP_asc (its : List (Option Int)) (f : Bool) : ((sgP f (rkF 0 its)).map (·.1)).Pairwise (· < ·) := by
  have e : (sgP f (rkF 0 its)).map (·.1) = (rkF 0 its).map (·.1) := by unfold sgP; rw [List.map_map]; rfl
  rw [e]
  exact rkF_asc its 0
theorem osI_asc (its : List (Option Int)) : (osI its).Pairwise (· < ·) := rkF_asc its 0
theorem osI_len (its : List (Option Int)) : (osI its).length ≤ its.length := by unfold osI; rw [List.length_map]; exact rkF_len its 0
theorem rk_inj {its : List (Option Int)} {f : Bool} (ho : (its.filterMap id).Nodup) {x y : Nat} (hx : x ∈ osI its) (hy : y ∈ osI its) (e : rkI its f x = rkI its f y) : x = y := by
  obtain ⟨p, hp, rfl⟩ := List.mem_map.mp hx
  obtain ⟨q, hq, rfl⟩ := List.mem_map.mp hy
  have h1 := (rkF_lt its 0 p hp).2.2
  have h2 := (rkF_lt its 0 q hq).2.2
  rw [Nat.sub_zero] at h1 h2
  unfold rkI at e
  rw [h1, h2] at e
  have e2 : p.2 = q.2 := by cases f <;> simp at e <;> omega
  rw [← rkF_vals its 0] at ho
  obtain ⟨i, hi, rfl⟩ := List.mem_iff_getElem.mp hp
  obtain ⟨j, hj, rfl⟩ := List.mem_iff_getElem.mp hq
  have hh := List.pairwise_iff_getElem.mp ho
  rcases Nat.lt_trichotomy i j with l | l | l
  · exact absurd (by rw [List.getElem_map, List.getElem_map]; exact e2) (hh i j (by rw [List.length_map]; exact hi) (by rw [List.length_map]; exact hj) l)
  · subst l; rfl
  · exact absurd (by rw [List.getElem_map, List.getElem_map]; exact e2.symm) (hh j i (by rw [List.length_map]; exact hj) (by rw [List.length_map]; exact hi) l)
def bV : Option Nat → V := fun o => o.elim .non fun x => .int (x : Nat)
def nV (l : List Nat) : List V := l.map fun n => V.int (n : Nat)
theorem nV_app (a b : List Nat) : nV (a ++ b) = nV a ++ nV b := List.map_append
theorem nV_len (a : List Nat) : (nV a).length = a.length := List.length_map ..
def tupN (l : List Nat) : PyData := .tuple (l.map fun n => PyData.int (n : Nat))
def toldD (ru : List Nat) (rows : List (List Nat)) : PyData := .tuple [tupN ru, .tuple (rows.map tupN)]
theorem dpN {H : Hp} : ∀ l : List Nat, DpAll K H (nV l) (l.map fun n => PyData.int (n : Nat))
  | [] => .nil
  | n :: l => .cons (.int _) (dpN l)
theorem noLs_n : ∀ l : List Nat, Gx.noLs (l.map fun n => PyData.int (n : Nat)) = true
  | [] => rfl
  | n :: l => by rw [List.map_cons, Gx.noLs, noLs_n l]; rfl
theorem noLs_rows : ∀ a b : List (List Nat), Gx.noLs (a.map tupN ++ b.map tupN) = true
  | [], [] => rfl
  | [], r :: b => by
    rw [List.map_nil, List.nil_append, List.map_cons, Gx.noLs]
    rw [show Gx.noL (tupN r) = true from by unfold tupN; rw [Gx.noL]; exact noLs_n r]
    have := noLs_rows [] b
    simpa using this
  | r :: a, b => by
    rw [List.map_cons, List.cons_append, Gx.noLs]
    rw [show Gx.noL (tupN r) = true from by unfold tupN; rw [Gx.noL]; exact noLs_n r]
    have := noLs_rows a b
    simpa using this
/-- the rows as lists, each its own -/
structure LsN (H : Hp) (R : Addr) (as : List Addr) (rows : Nat → List Nat) : Prop where
  top : H R = some (.lst (as.map V.ref))
  out : R ∉ as
  nd : as.Nodup
  at_ : ∀ n p, as[n]? = some p → H p = some (.lst (nV (rows n)))
theorem LsN.keep {H H' : Hp} {R : Addr} {as : List Addr} {rows rows' : Nat → List Nat} (h : LsN H R as rows) (e : ∀ b xs, H b = some (.lst xs) → H' b = some (.lst xs)) (er : ∀ n, n < as.length → rows' n = rows n) : LsN H' R as rows' :=
  ⟨e _ _ h.top, h.out, h.nd, fun n p hp => by rw [er n (List.getElem?_eq_some_iff.mp hp).1]; exact e _ _ (h.at_ n p hp)⟩
theorem LsN.add {H : Hp} {R E : Addr} {as : List Addr} {rows : Nat → List Nat} (h : LsN H R as rows) (nE : E ∉ as) (eE : H E = some (.lst [])) (nR : E ≠ R) (er : rows as.length = []) : LsN (upd H R (.lst (as.map V.ref ++ [.ref E]))) R (as ++ [E]) rows := by
  refine ⟨by rw [upd_same, List.map_append]; rfl, fun z => ?_, ?_, fun n p hp => ?_⟩
  · rcases List.mem_append.mp z with z | z
    · exact h.out z
    · exact nR (List.mem_singleton.mp z).symm
  · rw [List.nodup_append]
    exact ⟨h.nd, by simp, fun x hx y hy e => by cases List.mem_singleton.mp hy; exact nE (e ▸ hx)⟩
  · by_cases q : n < as.length
    · rw [List.getElem?_append_left q] at hp
      rw [upd_ne (fun z : p = R => h.out (z ▸ List.mem_of_getElem? hp))]
      exact h.at_ n p hp
    · have hl := (List.getElem?_eq_some_iff.mp hp).1
      rw [List.length_append, List.length_singleton] at hl
      have en : n = as.length := by omega
      subst en
      rw [List.getElem?_append_right (Nat.le_refl _), Nat.sub_self] at hp
      cases hp
      rw [upd_ne nR, eE, er]
      rfl
theorem LsN.push {H : Hp} {R p : Addr} {as : List Addr} {rows rows' : Nat → List Nat} {n y : Nat} (h : LsN H R as rows) (hp : as[n]? = some p) (er : ∀ m, rows' m = if m = n then rows m ++ [y] else rows m) : LsN (upd H p (.lst (nV (rows n) ++ [.int (y : Nat)]))) R as rows' := by
  have npR : R ≠ p := fun z => h.out (z ▸ List.mem_of_getElem? hp)
  refine ⟨by rw [upd_ne npR]; exact h.top, h.out, h.nd, fun m q hq => ?_⟩
  rw [er m]
  by_cases e : m = n
  · subst e
    rw [hp] at hq
    cases hq
    rw [upd_same, if_pos rfl, nV_app]
    rfl
  · have hqp : q ≠ p := fun z => by
      subst z
      obtain ⟨h1, e1⟩ := List.getElem?_eq_some_iff.mp hp
      obtain ⟨h2, e2⟩ := List.getElem?_eq_some_iff.mp hq
      exact e ((List.getElem_inj h.nd).mp (e2.trans e1.symm))
    rw [upd_ne hqp, if_neg e]
    exact h.at_ m q hq
def tpN (done : List Nat) (pi : Nat → Nat) (n : Nat) : Nat := (rowOf done pi n).getLastD 0
theorem tpN_of {done : List Nat} {pi : Nat → Nat} {n : Nat} {ys : List Nat} {t : Nat} (e : rowOf done pi n = ys ++ [t]) : tpN done pi n = t := by
  unfold tpN
  rw [e]
  simp
def sp_staying (K : PySem.W.Frag) (B : Addr) : Sp := fun vs H Q E => ∃ (a : Addr) (its : List (Option Int)) (f : Bool), vs = [.ref a, .bl f] ∧ SqT K H a (its.map oV) ∧ its.length ≤ 1000 ∧
  (Okay its → ∀ H' t ru rows, Same H H' → Told (rkI its f) (osI its) ru rows → Dp K H' (.ref t) (toldD ru rows) → Q (.ref t) H') ∧ (¬ Okay its → ∀ H', Same H H' → E (.ref B) none H')
set_option maxHeartbeats 4000000 in
theorem G_staying (T : Txt K mg w) : FnOk P w K mg base (L2.CX P w) 2 T.f_staying T.fd_staying ["alignment", "falling"] (sp_staying K T.a_BadAlignment) := by
  have G_ranks_of := G_ranks_of (P := P) (w := w) (base := base) T
  refine T.F_staying.okX sc_staying (fun vs H Q E h => ?_) (fun cdv A outer s H vs Q E hr h => ?_)
  · obtain ⟨a, its, f, rfl, _⟩ := h
    rfl
  · obtain ⟨a, its, f, rfl, hS, hl, q1, q2⟩ := h
    refine ⟨_, ((pss_cons (ps_set (i := 2) sc_staying.nd rfl (Or.inl rfl) (pe_call G_ranks_of (hr.mono (by first | decide | omega)) (by rfl) T.g_ranks_of T.F_ranks_of.kp T.b_ranks_of .nil (passes_call (takes_of rfl rfl rfl rfl) (fun _ _ _ _ h => h)) (pa_cons (pv 0) (pa_cons (pv 1) pa_nil))))
  (pss_cons (ps_set (i := 3) sc_staying.nd rfl (Or.inl rfl) (pe_lst pa_nil))
  (pss_cons (ps_set (i := 4) sc_staying.nd rfl (Or.inl rfl) pe_dnewK)
  (pss_cons (ps_lock (ps_for (passes_of rfl) rfl (pi_keys (pv 2)) (pg_name (i := 5) sc_staying.nd rfl (Or.inl rfl))
  (pss_cons (ps_set (i := 6) sc_staying.nd rfl (Or.inl rfl) pe_int)
  (pss_cons (ps_while (passes_of rfl) (PW.pt (pw_and (pt_cmpR op_lt (pv 6) (pe_callB Gx.cr_lenQ (by rfl) T.z_len bt_len (pa_cons (pv 3) pa_nil)) (nomark _)) (pw_and1 (pt_cmpR op_lt (pe_dget (Gx.hu1 hr.units) (pv 2) (pe_ix ix_list (pe_ix ix_list (pv 3) (pv 6) (fun _ _ => rfl)) (pe_un un_neg pe_int) (fun _ _ => rfl)) (fun _ _ => rfl)) (pe_dget (Gx.hu1 hr.units) (pv 2) (pv 5) (fun _ _ => rfl)) (nomark _)))))
  (pss_one (ps_aug (i := 6) sc_staying.nd rfl (Or.inl rfl) pe_int ip_add)))
  (pss_cons (ps_dput (Gx.hu1 hr.units) (pv 4) (pv 5) (pe_ifExp (pt_cmpR op_gt (pv 6) pe_int (nomark _)) (pe_ix ix_list (pe_ix ix_list (pv 3) (pe_op op_sub (pv 6) pe_int) (fun _ _ => rfl)) (pe_un un_neg pe_int) (fun _ _ => rfl)) pe_non) rfl)
  (C8.pss_cut (ps_if (pt_cmpR op_eq (pv 6) (pe_callB Gx.cr_lenQ (by rfl) T.z_len bt_len (pa_cons (pv 3) pa_nil)) (nomark _))
  (pss_one (ps_expr (pe_bm PySem.F.plainAttrs_list PySem.F.slot_list_append PySem.F.type_list_append mt_append (pv 3) (pa_cons (pe_lst pa_nil) pa_nil))))
  pss_nil)
  (pss_one (ps_expr (pe_bm PySem.F.plainAttrs_list PySem.F.slot_list_append PySem.F.type_list_append mt_append (pe_ix ix_list (pv 3) (pv 6) (fun _ _ => rfl)) (pa_cons (pv 5) pa_nil))))))))))
  (pss_cons (ps_set (i := 7) sc_staying.nd rfl (Or.inl rfl) (pe_lst pa_nil))
  (pss_cons (ps_set (i := 8) sc_staying.nd rfl (Or.inl rfl) (pe_ifExp (pt_cmpR op_gt (pe_callB Gx.cr_lenQ (by rfl) T.z_len bt_len (pa_cons (pv 3) pa_nil)) pe_int (nomark _)) (pe_ix ix_list (pe_ix ix_list (pv 3) (pe_un un_neg pe_int) (fun _ _ => rfl)) (pe_un un_neg pe_int) (fun _ _ => rfl)) pe_non))
  (pss_cons (ps_while (passes_of rfl) (pt_cmpR Gx.op_notNG (pv 8) pe_non (nomark _))
  (pss_cons (ps_expr (pe_bm PySem.F.plainAttrs_list PySem.F.slot_list_append PySem.F.type_list_append mt_append (pv 7) (pa_cons (pv 8) pa_nil)))
  (pss_one (ps_set (i := 8) sc_staying.nd rfl (Or.inl rfl) (pe_dget (Gx.hu1 hr.units) (pv 4) (pv 8) (fun _ _ => rfl))))))
  (pss_one (ps_ret (pe_tup (pa_cons (pe_callTy Gx.cr_tupL (by rfl) T.z_tuple bt_tuple (pa_cons (pe_revL (pv 7)) pa_nil)) (pa_cons (pe_callTy Gx.cr_tupL (by rfl) T.z_tuple bt_tuple (pa_cons (pe_lc (own := [("row", 9)]) (g := (gName 9)) (tt := tYes) (by rfl) sc_staying.nd (pi_list (pv 3)) (blkOk_by (N := ["alignment", "falling", "ranks", "rows", "before", "at", "number", "run", "last", "row"]) (sc := defScope s_staying) (by decide +kernel)) (fun _ _ _ _ _ => (pg_name (i := 9) sc_staying.nd rfl (Or.inl rfl))) (fun _ _ _ _ _ => pts_nil) (fun _ _ _ _ _ => (pe_callTy (r := Gx.rTupL K) Gx.cr_tupL (by rfl) T.z_tuple bt_tuple (pa_cons (pv 9) pa_nil)))) pa_nil)) pa_nil))))))))))))), ?_⟩
    rw [st_staying]
    try dsimp only [cxOf]
    walk_at "g"
    refine ⟨a, its, f, rfl, hS, hl, fun ho H1 D s1 nD eD => ?_, q2⟩
    replace q1 := q1 ho
    clear q2
    walk_at "g"
    refine Gx.newL (by decide) (fun R H2 ER => ?_)
    walk_at "g"
    intro B nB
    have sB : Same H2 (upd H2 B (.dK [])) := Gx.Same.put (Same.refl H2) nB
    have eB : upd H2 B (.dK []) B = some (.dK []) := upd_same
    have nRB : B ≠ R := fun z => by rw [z, ER.at_] at nB; cases nB
    generalize upd H2 B (.dK []) = H3 at *
    walk_at "g"
    have eD3 := sB _ _ (ER.same _ _ eD)
    refine ⟨D, _, eD3, trivial, fun od => ?_⟩
    have nDR : R ≠ D := fun z => by have := ER.fresh; rw [z, eD] at this; cases this
    have nDB : B ≠ D := fun z => by rw [z, ER.same _ _ eD] at nB; cases nB
    -- what stands while the ranks are locked
    obtain ⟨HL, hHL⟩ : ∃ HL, HL = upd H1 D (.frz od (.dK (dkv (sgP f (rkF 0 its))))) := ⟨_, rfl⟩
    have eL : HL D = some (.frz od (.dK (dkv (sgP f (rkF 0 its))))) := by rw [hHL]; exact upd_same
    have oL : ∀ b, b ≠ D → HL b = H1 b := fun b hb => by rw [hHL]; exact upd_ne hb
    have nR : HL R = none := by rw [oL R nDR]; exact ER.fresh
    have nB1 : HL B = none := by
      rw [oL B nDB]
      cases hh : H1 B with
      | none => rfl
      | some o => rw [ER.same _ _ hh] at nB; cases nB
    obtain ⟨H4, hH4⟩ : ∃ H4, H4 = upd H3 D (.frz od (.dK (dkv (sgP f (rkF 0 its))))) := ⟨_, rfl⟩
    rw [← hH4]
    have s4 : Same HL H4 := fun b o e => by
      by_cases hb : b = D
      · subst hb
        rw [hH4, upd_same, ← eL, e]
      · rw [hH4, upd_ne hb]
        rw [oL b hb] at e
        exact sB _ _ (ER.same _ _ e)
    have eR4 : H4 R = some (.lst []) := by rw [hH4, upd_ne nDR]; exact sB _ _ ER.at_
    have eB4 : H4 B = some (.dK []) := by rw [hH4, upd_ne nDB]; exact eB
    have e31 : ∀ b o, b ≠ D → H1 b = some o → HL b = some o := fun b o hb e => by rw [oL b hb]; exact e
    clear hH4 eB sB nB ER eD3
    generalize hos : osI its = os at *
    have hosl : os.length ≤ 1000 := by rw [← hos]; exact Nat.le_trans (osI_len its) hl
    have hasc : os.Pairwise (· < ·) := by rw [← hos]; exact osI_asc its
    have hin : ∀ x ∈ os, ∀ y ∈ os, rkI its f x = rkI its f y → x = y := fun x hx y hy e => by rw [← hos] at hx hy; exact rk_inj ho.1 hx hy e
    have hget : ∀ x ∈ os, valV (dkv (sgP f (rkF 0 its))) (.inl (x : Nat)) = some (.int (rkI its f x)) := fun x hx => by
      rw [← hos] at hx
      obtain ⟨i, hi⟩ := List.mem_iff_getElem?.mp hx
      exact dkv_get (sgP_asc its f) (ps_at hi)
    have hkl : (dkv (sgP f (rkF 0 its))).length = os.length := by rw [← hos, dkv, List.length_map, sgP, List.length_map, osI, List.length_map]
    have hki : ∀ i (k : Key) v, (dkv (sgP f (rkF 0 its)))[i]? = some (k, v) → ∃ x, os[i]? = some x ∧ k = .inl (x : Nat) := fun i k v e => by
      rw [dkv, List.getElem?_map] at e
      obtain ⟨p, hp, e2⟩ := Option.map_eq_some_iff.mp e
      rw [sgP, List.getElem?_map] at hp
      obtain ⟨p', hp', rfl⟩ := Option.map_eq_some_iff.mp hp
      cases e2
      refine ⟨p'.1, ?_, rfl⟩
      rw [← hos, osI, List.getElem?_map, hp']
      rfl
    generalize hkv : dkv (sgP f (rkF 0 its)) = kv at *
    generalize hrk : rkI its f = rk at *
    walk_at "g"
    refine ⟨D, od, rfl, .inl ⟨_, s4 _ _ eL, for_it walk_keys (fun i σ H' => ∃ (pi : Nat → Nat) (bf : Nat → Option Nat) (N : Nat) (as : List Addr) (bkv : List (Key × V)) (y1 y2 : Option V), Piles rk (os.take i) pi bf N ∧ Same HL H' ∧ LsN H' R as (rowOf (os.take i) pi) ∧ as.length = N ∧ N ≤ i ∧
        (∀ p ∈ as, HL p = none) ∧ H' B = some (.dK bkv) ∧ bkv.length ≤ i ∧ (∀ x ∈ os.take i, valV bkv (.inl (x : Nat)) = some (bV (bf x))) ∧ σ = [some (.ref a), some (.bl f), some (.ref D), some (.ref R), some (.ref B), y1, y2, none, none, none])
      ⟨fun _ => 0, fun _ => none, 0, [], [], none, none, Piles.nil _ _ _, s4, ⟨eR4, by simp, .nil, fun n p h => (by simp at h)⟩, rfl, Nat.le_refl _, fun p h => (by cases h), eB4, Nat.le_refl _, fun x h => (by simp at h), rfl⟩ ?_ ?_ ?_⟩⟩
    · rintro i σ H' _ ⟨_, _, _, _, _, _, _, _, s5, _⟩
      exact s5 _ _ eL
    · rintro i x σ H5 H6 hi ⟨pi, bf, N, as, bkv, y1, y2, P, s5, ls, asl, hNi, hasn, hB, hbl, hbv, rfl⟩ ⟨rfl, k, v, hk, rfl⟩
      obtain ⟨y, hy, rfl⟩ := hki i k v hk
      have hil := (List.getElem?_eq_some_iff.mp hy).1
      have hyo := List.mem_of_getElem? hy
      have hlt : ∀ x ∈ os.take i, x < y := fun x hx => by
        obtain ⟨j, hj, rfl⟩ := List.mem_iff_getElem.mp hx
        rw [List.length_take] at hj
        rw [List.getElem_take]
        obtain ⟨_, rfl⟩ := List.getElem?_eq_some_iff.mp hy
        exact List.pairwise_iff_getElem.mp hasc j i (by omega) hil (by omega)
      have hmem : ∀ x ∈ os.take i, x ∈ os := fun x hx => List.mem_of_mem_take hx
      have hrne : ∀ x ∈ os.take i, rk x ≠ rk y := fun x hx e => by
        have := hlt x hx
        have := hin x (hmem x hx) y hyo e
        omega
      have hR5 := SqL.of (K := K) ls.top
      have hRl : (as.map V.ref).length = N := by rw [List.length_map, asl]
      rw [show kV (.inl ((y : Nat) : Int)) = V.int (y : Nat) from rfl]
      subst asl
      have hDg : ∀ x ∈ os, DGet H6 D (V.int (x : Nat)) (some (.int (rk x))) := fun x hx => by rw [← hget x hx]; exact DGet.f (k := .inl (x : Nat)) (s5 _ _ eL)
      have hix : ∀ (n : Nat) (hn : n < as.length), ∃ (p : Addr) (ys : List Nat) (t : Nat), as[n]? = some p ∧ H6 p = some (.lst (nV ys ++ [.int (t : Nat)])) ∧ tpN (os.take i) pi n = t ∧ t ∈ os.take i ∧ pi t = n ∧ ∀ x ∈ os.take i, pi x = n → x ≤ t ∧ rk t ≤ rk x := fun n hn => by
        obtain ⟨ys, t, et, t1, t2, t3⟩ := P.top hn
        have hp := List.getElem?_eq_getElem hn
        have h2 := ls.at_ n _ hp
        rw [et, nV_app] at h2
        exact ⟨_, ys, t, hp, h2, tpN_of et, t1, t2, t3⟩
      walk_at "g"
      refine Gx.wh (W := fun m σ H' => ∃ n : Nat, H' = H6 ∧ n ≤ as.length ∧ m = as.length - n ∧ (∀ j, j < n → rk (tpN (os.take i) pi j) < rk y) ∧ σ = [some (.ref a), some (.bl f), some (.ref D), some (.ref R), some (.ref B), some (.int (y : Nat)), some (.int (n : Nat)), none, none, none])
        (m0 := as.length) ⟨0, rfl, Nat.zero_le _, rfl, fun j hj => by omega, rfl⟩ ?_
      rintro m σ H' ⟨n, rfl, hn, rfl, hlo, rfl⟩
      walk_at "g"
      refine Gx.and2T (p2 := rk (tpN (os.take i) pi n) < rk y) (fun hn2 Q' hQ' => ?_) ?_
      · obtain ⟨p, ys, t, hp, h2, et, t1, t2, t3⟩ := hix n (by omega)
        rw [et] at hQ'
        walk_at "g"
        refine Gx.ixL hR5 (Gx.atI_of (k := n) rfl (by rw [List.getElem?_map, hp]; rfl)) ?_
        walk_at "g"
        refine Gx.ixL (SqL.of h2) (atI_last _ _) ?_
        refine ⟨D, _, rfl, hDg t (hmem t t1), ?_⟩
        walk_at "g"
        refine ⟨D, _, rfl, hDg y hyo, ?_⟩
        walk_at "g"
        exact hQ'
      refine Gx.iteD (fun hc => ?_) (fun hc => ?_)
      · refine ⟨fun σ' H7 => H7 = H' ∧ σ' = [some (.ref a), some (.bl f), some (.ref D), some (.ref R), some (.ref B), some (.int (y : Nat)), some (.int ((n + 1 : Nat) : Nat)), none, none, none], ?_, ?_⟩
        · rintro σ' H7 ⟨rfl, rfl⟩
          refine ⟨as.length - (n + 1), by omega, n + 1, rfl, by omega, rfl, fun j hj => ?_, rfl⟩
          by_cases e : j = n
          · subst e; exact hc.2
          · exact hlo j (by omega)
        · walk_at "g"
          exact ⟨rfl, rfl⟩
      walk_at "g"
      refine Gx.iteV (v := bV (if 0 < n then some (tpN (os.take i) pi (n - 1)) else none)) (fun h0 Q' hQ' => ?_) (fun h0 Q' hQ' => ?_) ?_
      · obtain ⟨p, ys, t, hp, h2, et, t1, t2, t3⟩ := hix (n - 1) (by omega)
        rw [if_pos (by omega), et] at hQ'
        walk_at "g"
        refine Gx.ixL hR5 (Gx.atI_of (k := n - 1) (by omega) (by rw [List.getElem?_map, hp]; rfl)) ?_
        walk_at "g"
        exact Gx.ixL (SqL.of h2) (atI_last _ _) hQ'
      · rw [if_neg (by omega)] at hQ'
        walk_at "g"
        exact hQ'
      walk_at "g"
      obtain ⟨b, hb⟩ : ∃ b, b = if 0 < n then some (tpN (os.take i) pi (n - 1)) else none := ⟨_, rfl⟩
      rw [← hb]
      have hblp := length_putK bkv (.inl (y : Nat)) (bV b)
      refine ⟨B, _, rfl, DPut.k (k := .inl (y : Nat)) hB (by rw [sizeLine_eq]; omega), ?_⟩
      have nBs : ∀ q xs, H' q = some (.lst xs) → q ≠ B := fun q xs e z => by rw [z, hB] at e; cases e
      have ls7 : LsN (upd H' B (.dK (putK bkv (.inl (y : Nat)) (bV b)))) R as (rowOf (os.take i) pi) := ls.keep (fun q xs e => by rw [upd_ne (nBs q xs e)]; exact e) fun _ _ => rfl
      have s7 : Same HL (upd H' B (.dK (putK bkv (.inl (y : Nat)) (bV b)))) := Gx.Same.put s5 nB1
      have eB7 : upd H' B (.dK (putK bkv (.inl (y : Nat)) (bV b))) B = some (.dK (putK bkv (.inl (y : Nat)) (bV b))) := upd_same
      clear hix hDg hR5 hB
      generalize upd H' B (.dK (putK bkv (.inl (y : Nat)) (bV b))) = H7 at *
      have hR7 := SqL.of (K := K) ls7.top
      walk_at "g"
      refine ⟨fun σ H8 => ∃ as' : List Addr, as'.length = (if n = as.length then as.length + 1 else as.length) ∧ LsN H8 R as' (rowOf (os.take i) pi) ∧ Same HL H8 ∧ H8 B = some (.dK (putK bkv (.inl (y : Nat)) (bV b))) ∧ (∀ p ∈ as', HL p = none) ∧
        σ = [some (.ref a), some (.bl f), some (.ref D), some (.ref R), some (.ref B), some (.int (y : Nat)), some (.int (n : Nat)), none, none, none], ?_, ?_⟩
      · walk_at "g"
        refine Gx.iteD (fun he => ?_) (fun he => ?_)
        · have he' : n = as.length := by omega
          subst he'
          walk_at "g"
          refine Gx.tyL ls7.top ?_
          walk_at "g"
          refine Gx.newL (by decide) (fun E H8 E8 => ?_)
          walk_at "g"
          have top8 := E8.same _ _ ls7.top
          refine Gx.app top8 (Gx.lineL (by rw [List.length_map]; omega)) ?_
          walk_at "g"
          have nEa : E ∉ as := fun z => by
            obtain ⟨j, hj⟩ := List.mem_iff_getElem?.mp z
            have := ls7.at_ j E hj
            rw [E8.fresh] at this
            cases this
          have nER : E ≠ R := fun z => by have := E8.fresh; rw [z, ls7.top] at this; cases this
          have nBR : B ≠ R := fun z => by rw [z, ls7.top] at eB7; cases eB7
          have nEL : HL E = none := by
            cases hh : HL E with
            | none => rfl
            | some o => have := s7 _ _ hh; rw [E8.fresh] at this; cases this
          refine ⟨as ++ [E], by rw [if_pos rfl, List.length_append]; rfl, (ls7.keep (fun q xs e => E8.same _ _ e) fun _ _ => rfl).add nEa E8.at_ nER ?_, Gx.Same.put (s7.trans E8.same) nR, by rw [upd_ne nBR]; exact E8.same _ _ eB7, fun p hp => ?_, rfl⟩
          · apply List.eq_nil_iff_forall_not_mem.mpr
            intro x hx
            obtain ⟨h1, h2⟩ := mem_rowOf.mp hx
            have := P.lt x h1
            omega
          · rcases List.mem_append.mp hp with h | h
            · exact hasn p h
            · rw [List.mem_singleton.mp h]; exact nEL
        · walk_at "g"
          exact ⟨as, by rw [if_neg (by omega)], ls7, s7, eB7, hasn, rfl⟩
      rintro σ H8 ⟨as', asl', ls8, s8, eB8, hasn', rfl⟩
      have hR8 := SqL.of (K := K) ls8.top
      have hnl : n < as'.length := by rw [asl']; split <;> omega
      have hp := List.getElem?_eq_getElem hnl
      generalize as'[n] = p at hp
      have h2 := ls8.at_ n p hp
      have hrl := rowOf_len (os.take i) pi n
      rw [List.length_take] at hrl
      walk_at "g"
      refine Gx.ixL hR8 (Gx.atI_of (k := n) rfl (by rw [List.getElem?_map, hp]; rfl)) ?_
      refine Gx.tyL h2 ?_
      walk_at "g"
      refine Gx.app h2 (Gx.lineL (by rw [nV_len]; omega)) ?_
      walk_at "g"
      have et : os.take (i + 1) = os.take i ++ [y] := by rw [List.take_add_one, hy]; rfl
      rw [et]
      have npB : B ≠ p := fun z => by rw [← z, eB8] at h2; cases h2
      refine ⟨fun x => if x = y then n else pi x, fun x => if x = y then b else bf x, _, as', _, _, _, P.put (b := b) hlt hrne hn ?_ ?_ ?_, Gx.Same.put s8 (hasn' p (List.mem_of_getElem? hp)), ls8.push hp fun m => rowOf_put hlt, asl', by split <;> omega, hasn', by rw [upd_ne npB]; exact eB8, by omega, fun x hx => ?_, rfl⟩
      · intro t _ h0 t3 t1 t2
        obtain ⟨ys, t', et', t1', t2', t3'⟩ := P.top (n := n - 1) (by omega)
        have h3 := hlo (n - 1) (by omega)
        rw [tpN_of et'] at h3
        have := (t3 t' t1' t2').2
        omega
      · intro t hnN t3 t1 t2 hlt2
        obtain ⟨ys, t', et', t1', t2', t3'⟩ := P.top (n := n) (by omega)
        refine hc ⟨by omega, ?_⟩
        rw [tpN_of et']
        have := (t3' t t1 t2).2
        omega
      · by_cases h0 : n = 0
        · exact .inl ⟨h0, by rw [hb, if_neg (by omega)]⟩
        · obtain ⟨ys, t', et', t1', t2', t3'⟩ := P.top (n := n - 1) (by omega)
          exact .inr ⟨t', t1', by rw [hb, if_pos (by omega), tpN_of et'], by omega, t3'⟩
      · rw [valV_put]
        by_cases e : x = y
        · subst e
          rw [if_pos rfl]
          dsimp only
          rw [if_pos rfl]
        · rw [if_neg (by intro z; injection z with z; omega)]
          dsimp only
          rw [if_neg e]
          rcases List.mem_append.mp hx with h | h
          · exact hbv x h
          · exact absurd (List.mem_singleton.mp h) e
    · rintro σ H5 ⟨pi, bf, N, as, bkv, y1, y2, P, s5, ls, asl, hNi, hasn, hB, hbl, hbv, rfl⟩
      rw [hkl, List.take_length] at P ls hbv
      rw [hkl] at hNi hbl
      subst asl
      have eD5 := s5 _ _ eL
      refine ⟨eD5, ?_⟩
      have nRD : R ≠ D := nDR
      have kvD : ∀ b o, b ≠ D → H5 b = some o → upd H5 D (.dK kv) b = some o := fun b o hb e => by rw [upd_ne hb]; exact e
      have ls6 : LsN (upd H5 D (.dK kv)) R as (rowOf os pi) := ls.keep (fun b xs e => kvD b _ (fun z => by rw [z, eD5] at e; cases e) e) fun _ _ => rfl
      have eB6 : upd H5 D (.dK kv) B = some (.dK bkv) := kvD B _ nDB hB
      have s6 : Same H1 (upd H5 D (.dK kv)) := fun b o e => by
        by_cases hb : b = D
        · subst hb
          rw [upd_same, ← e, eD]
        · rw [upd_ne hb]
          exact s5 _ _ (e31 b o hb e)
      clear hB ls eD5 s5 kvD
      generalize upd H5 D (.dK kv) = H6 at *
      have hR6 := SqL.of (K := K) ls6.top
      have s06 := s1.trans s6
      clear s6
      walk_at "g"
      refine Gx.newL (by decide) (fun U H7 E7 => ?_)
      have ls7 : LsN H7 R as (rowOf os pi) := ls6.keep (fun b xs e => E7.same _ _ e) fun _ _ => rfl
      have eB7 := E7.same _ _ eB6
      have s07 := s06.trans E7.same
      have eU7 := E7.at_
      have nUR : R ≠ U := fun z => by have := E7.fresh; rw [← z, ls6.top] at this; cases this
      have nUB : B ≠ U := fun z => by have := E7.fresh; rw [← z, eB6] at this; cases this
      have nUa : U ∉ as := fun z => by
        obtain ⟨j, hj⟩ := List.mem_iff_getElem?.mp z
        have := ls6.at_ j U hj
        rw [E7.fresh] at this
        cases this
      have nUH : H U = none := by
        cases hh : H U with
        | none => rfl
        | some o => have := s06 _ _ hh; rw [E7.fresh] at this; cases this
      clear ls6 eB6 hR6 s06 E7
      have hR7 := SqL.of (K := K) ls7.top
      walk_at "g"
      have htop : 0 < as.length → ∃ (p : Addr) (ys : List Nat) (t : Nat), as[as.length - 1]? = some p ∧ H7 p = some (.lst (nV ys ++ [.int (t : Nat)])) ∧ tpN os pi (as.length - 1) = t ∧ t ∈ os ∧ pi t = as.length - 1 := fun hn => by
        obtain ⟨ys, t, et, t1, t2, t3⟩ := P.top (n := as.length - 1) (by omega)
        have hp := List.getElem?_eq_getElem (l := as) (i := as.length - 1) (by omega)
        have h2 := ls7.at_ _ _ hp
        rw [et, nV_app] at h2
        exact ⟨_, ys, t, hp, h2, tpN_of et, t1, t2⟩
      refine Gx.iteV (v := bV (if 0 < as.length then some (tpN os pi (as.length - 1)) else none)) (fun h0 Q' hQ' => ?_) (fun h0 Q' hQ' => ?_) ?_
      · obtain ⟨p, ys, t, hp, h2, et, t1, t2⟩ := htop (by omega)
        rw [if_pos (by omega), et] at hQ'
        walk_at "g"
        have ea : ∃ l, as = l ++ [p] := by
          have hne : as ≠ [] := fun z => by rw [z] at h0; simp at h0
          refine ⟨as.dropLast, ?_⟩
          have e1 := List.dropLast_concat_getLast hne
          rw [List.getLast_eq_getElem] at e1
          have e2 := (List.getElem?_eq_some_iff.mp hp).2
          rw [e2] at e1
          exact e1.symm
        obtain ⟨l, el⟩ := ea
        refine Gx.ixL hR7 (by rw [el, List.map_append]; exact atI_last _ _) ?_
        walk_at "g"
        exact Gx.ixL (SqL.of h2) (atI_last _ _) hQ'
      · rw [if_neg (by omega)] at hQ'
        walk_at "g"
        exact hQ'
      obtain ⟨lst, hls⟩ : ∃ b, b = if 0 < as.length then some (tpN os pi (as.length - 1)) else none := ⟨_, rfl⟩
      rw [← hls]
      obtain ⟨run, hrn, hrl, hrm, hrp⟩ : ∃ run : List Nat, ((lst = none ∧ run = []) ∨ ∃ t, lst = some t ∧ Back bf t run) ∧ run.length = as.length ∧ (∀ x ∈ run, x ∈ os) ∧ run.Pairwise (fun a b => b < a ∧ rk b < rk a) := by
        by_cases h0 : 0 < as.length
        · obtain ⟨p, ys, t, hp, h2, et, t1, t2⟩ := htop h0
          obtain ⟨l, b1, b2, b3, b4⟩ := P.back (as.length - 1) t t2 t1
          rw [if_pos h0, et] at hls
          exact ⟨l, .inr ⟨t, hls, b1⟩, by omega, fun x hx => (b3 x hx).1, b4⟩
        · rw [if_neg h0] at hls
          exact ⟨[], .inl ⟨hls, rfl⟩, by simp; omega, fun x hx => (by cases hx), .nil⟩
      clear htop
      walk_at "g"
      refine Gx.wh (W := fun m σ H' => ∃ (l1 l2 : List Nat) (b : Option Nat), H' = upd H7 U (.lst (nV l1)) ∧ run = l1 ++ l2 ∧ m = l2.length ∧ ((b = none ∧ l2 = []) ∨ ∃ t, b = some t ∧ Back bf t l2) ∧ σ = [some (.ref a), some (.bl f), some (.ref D), some (.ref R), some (.ref B), y1, y2, some (.ref U), some (bV b), none])
        (m0 := run.length) ⟨[], run, lst, ?_, rfl, rfl, hrn, rfl⟩ ?_
      · funext b
        by_cases hb : b = U
        · subst hb; rw [upd_same, eU7]; rfl
        · rw [upd_ne hb]
      rintro m σ H8 ⟨l1, l2, b, rfl, erun, rfl, hb, rfl⟩
      rcases hb with ⟨rfl, rfl⟩ | ⟨t, rfl, hbk⟩
      · rw [show bV none = V.non from rfl]
        rw [List.append_nil] at erun
        subst erun
        have ls8 : LsN (upd H7 U (.lst (nV run))) R as (rowOf os pi) := ⟨by rw [upd_ne nUR]; exact ls7.top, ls7.out, ls7.nd, fun n p hp => by rw [upd_ne (fun z : p = U => nUa (z ▸ List.mem_of_getElem? hp))]; exact ls7.at_ n p hp⟩
        have s08 : Same H (upd H7 U (.lst (nV run))) := Gx.Same.put s07 nUH
        have eU8 : upd H7 U (.lst (nV run)) U = some (.lst (nV run)) := upd_same
        clear hR7 ls7 eB7 s07 eU7 nUR nUB nUa nUH
        generalize upd H7 U (.lst (nV run)) = H8 at *
        have hR8 := SqL.of (K := K) ls8.top
        walk_at "g"
        refine ⟨_, rfl, U, _, rfl, SqL.of eU8, fun O nO => ?_⟩
        have e9 : upd H8 O (.lst (nV run).reverse) O = some (.lst (nV run).reverse) := upd_same
        have s9 : Same H8 (upd H8 O (.lst (nV run).reverse)) := Gx.Same.put (Same.refl H8) nO
        generalize upd H8 O (.lst (nV run).reverse) = H9 at *
        walk_at "g"
        refine Gx.tupL (SqL.of e9) fun Tr nTr => ?_
        have e10 : upd H9 Tr (.tup (nV run).reverse) Tr = some (.tup (nV run).reverse) := upd_same
        have s10 : Same H8 (upd H9 Tr (.tup (nV run).reverse)) := Gx.Same.put s9 (by
          cases hh : H8 Tr with
          | none => rfl
          | some o => have := s9 _ _ hh; rw [nTr] at this; cases this)
        generalize upd H9 Tr (.tup (nV run).reverse) = H10 at *
        have hR10 := s10.seq hR8
        have dRun : Dp K H10 (.ref Tr) (tupN run.reverse) := by
          refine .tup (SqT.of e10) ?_
          have er : (nV run).reverse = nV run.reverse := by unfold nV; rw [List.map_reverse]
          rw [er]
          exact dpN run.reverse
        walk_at "g"
        refine ⟨⟨_, hR10⟩, fun L nL => lc_list (K := K) (a := R) (xs := as.map V.ref) (fun i H' => Same H10 H' ∧ ∃ vs, H' L = some (.lst vs) ∧ vs.length = i ∧ DpAll K H' vs (((List.range i).map (rowOf os pi)).map tupN)) ⟨Gx.Same.put (Same.refl H10) nL, [], upd_same, rfl, .nil⟩ (fun i H' _ z => z.1.seq hR10) ?_ ?_⟩
        · rintro i x H11 hi ⟨s11, vs, e11, hvl, dv⟩
          rw [List.getElem?_map] at hi
          obtain ⟨p, hp, rfl⟩ := Option.map_eq_some_iff.mp hi
          have hpa := (s10.trans s11) _ _ (ls8.at_ i p hp)
          have hil := (List.getElem?_eq_some_iff.mp hp).1
          walk_at "g"
          refine ⟨rfl, ?_⟩
          walk_at "g"
          refine Gx.tupL (SqL.of hpa) fun t nt => ?_
          have st : Same H11 (upd H11 t (.tup (nV (rowOf os pi i)))) := Gx.Same.put (Same.refl H11) nt
          have et : upd H11 t (.tup (nV (rowOf os pi i))) t = some (.tup (nV (rowOf os pi i))) := upd_same
          refine ⟨vs, st _ _ e11, Gx.lineL (by omega), Gx.Same.put (s11.trans st) nL, vs ++ [.ref t], upd_same, by rw [List.length_append, hvl]; rfl, ?_⟩
          have e12 := st _ _ e11
          rw [List.range_succ, List.map_append, List.map_append]
          have nls : Gx.noLs ((((List.range i).map (rowOf os pi)).map tupN) ++ [tupN (rowOf os pi i)]) = true := by
            exact noLs_rows _ [rowOf os pi i]
          refine Gx.dpAll_tups (Gx.Tups.upd e12) _ _ nls (Gx.dpAll_app (Gx.dpAll_same st _ _ dv) (.cons (.tup (SqT.of et) (dpN _)) .nil))
        · rintro H11 ⟨s11, vs, e11, hvl, dv⟩
          rw [List.length_map] at dv
          walk_at "g"
          refine Gx.tupL (SqL.of e11) fun Tt nTt => ?_
          have e12 : upd H11 Tt (.tup vs) Tt = some (.tup vs) := upd_same
          have s12 : Same H11 (upd H11 Tt (.tup vs)) := Gx.Same.put (Same.refl H11) nTt
          generalize upd H11 Tt (.tup vs) = H12 at *
          walk_at "g"
          refine Gx.newT (by simp) (fun O2 H13 E13 => ?_)
          walk_at "g"
          refine q1 H13 O2 run.reverse ((List.range as.length).map (rowOf os pi)) (((s08.trans (s10.trans s11)).trans s12).trans E13.same) ⟨pi, bf, as.length, P, by rw [List.length_reverse, hrl], fun x hx => hrm x (List.mem_reverse.mp hx), ?_, rfl⟩ ?_
          · rw [List.pairwise_reverse]
            exact hrp
          · refine .tup (SqT.of E13.at_) (.cons (Gx.dp_same ((s11.trans s12).trans E13.same) _ _ dRun) (.cons (.tup (E13.same.seqT (SqT.of e12)) ?_) .nil))
            exact Gx.dpAll_same (s12.trans E13.same) _ _ dv
      · obtain ⟨l, rfl, hnx⟩ : ∃ l, l2 = t :: l ∧ ((bf t = none ∧ l = []) ∨ ∃ u, bf t = some u ∧ Back bf u l) := by
          cases hbk with
          | one h => exact ⟨[], rfl, .inl ⟨h, rfl⟩⟩
          | more h h2 => exact ⟨_, rfl, .inr ⟨_, h, h2⟩⟩
        rw [show bV (some t) = V.int (t : Nat) from rfl]
        have hl2 : run.length = l1.length + (l.length + 1) := by rw [erun, List.length_append, List.length_cons]
        have hto : t ∈ os := hrm t (by rw [erun]; simp)
        walk_at "g"
        refine ⟨fun σ' H' => H' = upd H7 U (.lst (nV (l1 ++ [t]))) ∧ σ' = [some (.ref a), some (.bl f), some (.ref D), some (.ref R), some (.ref B), y1, y2, some (.ref U), some (bV (bf t)), none], ?_, ?_⟩
        · rintro σ' H' ⟨rfl, rfl⟩
          exact ⟨l.length, by rw [List.length_cons]; omega, l1 ++ [t], l, bf t, rfl, by rw [erun]; simp, rfl, hnx, rfl⟩
        · walk_at "g"
          refine Gx.tyL upd_same ?_
          walk_at "g"
          refine Gx.app upd_same (Gx.lineL (by rw [nV_len]; omega)) ?_
          walk_at "g"
          refine ⟨B, _, rfl, (hbv t hto) ▸ DGet.k (k := .inl (t : Nat)) (by rw [upd_ne nUB, upd_ne nUB]; exact eB7), ?_⟩
          walk_at "g"
          refine ⟨?_, rfl⟩
          rw [nV_app]
          funext b
          by_cases hb : b = U
          · subst hb
            rw [upd_same, upd_same]
            rfl
          · rw [upd_ne hb, upd_ne hb, upd_ne hb]
end
end K39
namespace K39
open PySem PySem.Spec PyProof.Rows L2
local macro_rules | `(tactic| walk_at "con") => `(tactic| first | fail)
section
variable {P : Program} {w : World} {K : PySem.W.Frag} {mg : Str → Option Value} {base : Heap}
def sp_order (K : PySem.W.Frag) : Sp := fun vs H Q _ => ∃ (a : Addr) (xs : List Int) (m w : Int), vs = [.ref a, .int m, .int w] ∧ SqL K H a (xs.map V.int) ∧ 0 < xs.length ∧ 0 ≤ m ∧ m ≤ 100 ∧ ∀ H' p (ns : List Int), Same H H' → H p = none → H' p = some (.lst (ns.map V.int)) → (ns.length : Int) = m → Q (.ref p) H'
theorem G__law_order (T : Txt K mg w) : FnOk P w K mg base CX0 2 T.f__law_order T.fd__law_order ["numbers", "many", "way"] (sp_order K) := by
  have G__law_pick := G__law_pick (P := P) (w := w) (base := base) T
  refine T.F__law_order.ok sc__law_order (fun vs H Q E h => ?_) (fun cdv A outer s H vs Q E hr h => ?_)
  · obtain ⟨a, xs, m, w, rfl, _⟩ := h
    rfl
  · obtain ⟨a, xs, m, wy, rfl, hX, hxl, hm0, hm1, q⟩ := h
    refine ⟨_, ((pss_cons (ps_set (i := 3) sc__law_order.nd rfl (Or.inl rfl) (pe_lst pa_nil))
  (pss_cons (ps_for PassesOwn.never rfl (pi_range1 rfl T.z_range (pa_cons (pv 1) pa_nil)) (pg_name (i := 4) sc__law_order.nd rfl (Or.inl rfl))
  (pss_cons (ps_set (i := 5) sc__law_order.nd rfl (Or.inl rfl) (pe_call G__law_pick (hr.mono (by first | decide | omega)) (by rfl) T.g__law_pick T.F__law_pick.kp T.b__law_pick .nil pass0 (pa_cons (pv 0) (pa_cons (pe_op op_add pe_int (pv 4)) (pa_cons (pe_op op_add (pv 4) pe_int) pa_nil)))))
  (C8.pss_cut (ps_if (PW.pt (pw_and (pt_cmpR op_eq (pv 2) pe_int (nomark _)) (pw_and1 (pt_cmpR op_gt (pe_call G__law_pick (hr.mono (by first | decide | omega)) (by rfl) T.g__law_pick T.F__law_pick.kp T.b__law_pick .nil pass0 (pa_cons (pv 0) (pa_cons (pe_op op_add pe_int (pv 4)) (pa_cons pe_int pa_nil)))) pe_int (nomark _)))))
  (pss_one (ps_set (i := 5) sc__law_order.nd rfl (Or.inl rfl) (pv 4)))
  pss_nil)
  (C8.pss_cut (ps_if (PW.pt (pw_and (pt_cmpR op_eq (pv 2) pe_int (nomark _)) (pw_and1 (pt_cmpR op_gt (pe_call G__law_pick (hr.mono (by first | decide | omega)) (by rfl) T.g__law_pick T.F__law_pick.kp T.b__law_pick .nil pass0 (pa_cons (pv 0) (pa_cons (pe_op op_add pe_int (pv 4)) (pa_cons pe_int pa_nil)))) pe_int (nomark _)))))
  (pss_one (ps_set (i := 5) sc__law_order.nd rfl (Or.inl rfl) pe_int))
  pss_nil)
  (C8.pss_cut (ps_if (pt_cmpR op_eq (pv 2) pe_int (nomark _))
  (pss_one (ps_set (i := 5) sc__law_order.nd rfl (Or.inl rfl) (pe_op op_sub (pv 4) (pe_op op_mod (pv 4) (pe_op op_add pe_int (pe_call G__law_pick (hr.mono (by first | decide | omega)) (by rfl) T.g__law_pick T.F__law_pick.kp T.b__law_pick .nil pass0 (pa_cons (pv 0) (pa_cons pe_int (pa_cons pe_int pa_nil)))))))))
  pss_nil)
  (pss_one (ps_set (i := 3) sc__law_order.nd rfl (Or.inl rfl) (pe_op op_cat (pe_op op_cat (pe_slice sl_list (pv 3) po_none (po_some (pv 5))) (pe_lst (pa_cons (pv 4) pa_nil))) (pe_slice sl_list (pv 3) (po_some (pv 5)) po_none)))))))))
  (pss_one (ps_ret (pv 3)))))), ?_⟩
    rw [st__law_order]
    try dsimp only [cxOf]
    walk_at "g"
    refine Gx.newL (by decide) (fun F H1 E1 => ?_)
    walk_at "g"
    refine ⟨_, rfl, by omega, by omega, for_range (fun i σ H2 => ∃ (F : Addr) (ns : List Int) (y1 y2 : Option V), Same H H2 ∧ H F = none ∧ H2 F = some (.lst (ns.map V.int)) ∧ ns.length = i ∧ σ = [some (.ref a), some (.int m), some (.int wy), some (.ref F), y1, y2]) ⟨F, [], none, none, E1.same, E1.fresh, E1.at_, rfl, rfl⟩ ?_ ?_⟩
    · rintro i σ H2 hi ⟨F, ns, y1, y2, s2, nF, e2, nl, rfl⟩
      clear E1
      walk_at "g"
      refine ⟨a, xs, _, _, rfl, s2.seq hX, hxl, by omega, ?_⟩
      have hp0 := pick_0 xs (10 + (0 + (i : Int))) (m := 0 + (i : Int) + 1) (by omega)
      have hp1 := pick_lt xs (10 + (0 + (i : Int))) (m := 0 + (i : Int) + 1) (by omega)
      generalize pick xs _ _ = v at *
      walk_at "g"
      refine ⟨fun σ H3 => ∃ sp : Int, H3 = H2 ∧ 0 ≤ sp ∧ sp ≤ i ∧ σ = [some (.ref a), some (.int m), some (.int wy), some (.ref F), some (.int (0 + (i : Int))), some (.int sp)], ?_, ?_⟩
      · walk_at "g"
        refine Gx.and2T (p2 := pick xs (71 + (0 + (i : Int))) 4 > 0) (fun h1 Q' hQ' => ?_) ?_
        · walk_at "g"
          refine ⟨a, xs, _, _, rfl, s2.seq hX, hxl, by omega, ?_⟩
          walk_at "g"
          exact hQ'
        refine Gx.iteD (fun _ => ?_) (fun _ => ?_)
        · walk_at "g"
          exact ⟨_, rfl, by omega, by omega, rfl⟩
        · walk_at "g"
          exact ⟨_, rfl, by omega, by omega, rfl⟩
      rintro σ H3 ⟨sp, rfl, sp0, sp1, rfl⟩
      clear hp0 hp1 v
      walk_at "g"
      refine ⟨fun σ H4 => ∃ sp : Int, H4 = H3 ∧ 0 ≤ sp ∧ sp ≤ i ∧ σ = [some (.ref a), some (.int m), some (.int wy), some (.ref F), some (.int (0 + (i : Int))), some (.int sp)], ?_, ?_⟩
      · walk_at "g"
        refine Gx.and2T (p2 := pick xs (71 + (0 + (i : Int))) 4 > 0) (fun h1 Q' hQ' => ?_) ?_
        · walk_at "g"
          refine ⟨a, xs, _, _, rfl, s2.seq hX, hxl, by omega, ?_⟩
          walk_at "g"
          exact hQ'
        refine Gx.iteD (fun _ => ?_) (fun _ => ?_)
        · walk_at "g"
          exact ⟨_, rfl, by omega, by omega, rfl⟩
        · walk_at "g"
          exact ⟨_, rfl, by omega, by omega, rfl⟩
      rintro σ H4 ⟨sp', rfl, sp0', sp1', rfl⟩
      clear sp0 sp1 sp
      walk_at "g"
      refine ⟨fun σ H5 => ∃ sp : Int, H5 = H4 ∧ 0 ≤ sp ∧ sp ≤ i ∧ σ = [some (.ref a), some (.int m), some (.int wy), some (.ref F), some (.int (0 + (i : Int))), some (.int sp)], ?_, ?_⟩
      · walk_at "g"
        refine Gx.iteD (fun _ => ?_) (fun _ => ?_)
        · walk_at "g"
          refine ⟨a, xs, _, _, rfl, s2.seq hX, hxl, by omega, ?_⟩
          have hp0 := pick_0 xs 9 (m := 4) (by omega)
          have hp1 := pick_lt xs 9 (m := 4) (by omega)
          generalize pick xs 9 4 = v at *
          walk_at "g"
          have h1 := Int.emod_nonneg (0 + (i : Int)) (b := 2 + v) (by omega)
          have h2 := Int.mul_nonneg (show 0 ≤ 2 + v by omega) (Int.ediv_nonneg (show 0 ≤ 0 + (i : Int) by omega) (show 0 ≤ 2 + v by omega))
          have h3 := Int.mul_ediv_add_emod (0 + (i : Int)) (2 + v)
          exact ⟨_, rfl, by omega, by omega, rfl⟩
        · walk_at "g"
          exact ⟨_, rfl, by omega, by omega, rfl⟩
      rintro σ H5 ⟨sp, rfl, sp0, sp1, rfl⟩
      clear sp0' sp1' sp'
      have hF := SqL.of (K := K) e2
      walk_at "g"
      refine Gx.slL1 hF fun A HA EA => ?_
      rw [Gx.cutV_A _ sp0] at EA
      walk_at "g"
      refine Gx.newL (by simp) (fun B HB EB => ?_)
      walk_at "g"
      refine Gx.cat1 (EB.same _ _ EA.at_) EB.at_ (by rw [List.length_take, List.length_map]; simp; omega) (fun C HC EC => ?_)
      walk_at "g"
      refine Gx.slL1 (EC.same.seq (EB.same.seq (EA.same.seq hF))) fun D HD ED => ?_
      rw [Gx.cutV_B _ sp0] at ED
      walk_at "g"
      refine Gx.cat1 (ED.same _ _ EC.at_) ED.at_ (by simp; omega) (fun G HG EG => ?_)
      walk_at "g"
      have s5 := EA.same.trans (EB.same.trans (EC.same.trans (ED.same.trans EG.same)))
      have nG : H G = none := by
        cases hh : H G with
        | none => rfl
        | some o =>
          have := (s2.trans (EA.same.trans (EB.same.trans (EC.same.trans ED.same)))) _ _ hh
          rw [EG.fresh] at this
          cases this
      refine ⟨G, ns.take sp.toNat ++ [0 + (i : Int)] ++ ns.drop sp.toNat, _, _, s2.trans s5, nG, ?_, ?_, rfl⟩
      · rw [EG.at_, List.map_append, List.map_append, List.map_take, List.map_drop]
        rfl
      · simp; omega
    · rintro σ H2 ⟨F, ns, y1, y2, s2, nF, e2, nl, rfl⟩
      walk_at "g"
      exact q H2 F ns s2 nF e2 (by omega)
def sp_items (K : PySem.W.Frag) : Sp := fun vs H Q _ => ∃ (a : Addr) (xs : List Int), vs = [.ref a] ∧ SqL K H a (xs.map V.int) ∧ 0 < xs.length ∧ ∀ H' p (its : List (Option Int)), Same H H' → SqT K H' p (its.map oV) → its.length ≤ 60 → Q (.ref p) H'
theorem G__law_items (T : Txt K mg w) : FnOk P w K mg base CX0 3 T.f__law_items T.fd__law_items ["numbers"] (sp_items K) := by
  have G__law_pick := G__law_pick (P := P) (w := w) (base := base) T
  have G__law_wide := G__law_wide (P := P) (w := w) (base := base) T
  have G__law_order := G__law_order (P := P) (w := w) (base := base) T
  refine T.F__law_items.ok sc__law_items (fun vs H Q E h => ?_) (fun cdv A outer s H vs Q E hr h => ?_)
  · obtain ⟨a, xs, rfl, _⟩ := h
    rfl
  · obtain ⟨a, xs, rfl, hX, hxl, q⟩ := h
    refine ⟨_, ((pss_cons (ps_set (i := 1) sc__law_items.nd rfl (Or.inl rfl) (pe_call G__law_pick (hr.mono (by first | decide | omega)) (by rfl) T.g__law_pick T.F__law_pick.kp T.b__law_pick .nil pass0 (pa_cons (pv 0) (pa_cons pe_int (pa_cons pe_int pa_nil)))))
  (C8.pss_cut (ps_if (pt_cmpR op_eq (pe_call G__law_pick (hr.mono (by first | decide | omega)) (by rfl) T.g__law_pick T.F__law_pick.kp T.b__law_pick .nil pass0 (pa_cons (pv 0) (pa_cons pe_int (pa_cons pe_int pa_nil)))) pe_int (nomark _))
  (pss_one (ps_set (i := 1) sc__law_items.nd rfl (Or.inl rfl) (pe_call G__law_wide (hr.mono (by first | decide | omega)) (by rfl) T.g__law_wide T.F__law_wide.kp T.b__law_wide .nil pass0 (pa_cons (pv 0) (pa_cons pe_int (pa_cons pe_int pa_nil))))))
  pss_nil)
  (pss_cons (ps_set (i := 2) sc__law_items.nd rfl (Or.inl rfl) (pe_call G__law_pick (hr.mono (by first | decide | omega)) (by rfl) T.g__law_pick T.F__law_pick.kp T.b__law_pick .nil pass0 (pa_cons (pv 0) (pa_cons pe_int (pa_cons pe_int pa_nil)))))
  (pss_cons (ps_set (i := 3) sc__law_items.nd rfl (Or.inl rfl) (pe_op op_add pe_int (pe_call G__law_pick (hr.mono (by first | decide | omega)) (by rfl) T.g__law_pick T.F__law_pick.kp T.b__law_pick .nil pass0 (pa_cons (pv 0) (pa_cons pe_int (pa_cons pe_int pa_nil))))))
  (pss_cons (ps_set (i := 4) sc__law_items.nd rfl (Or.inl rfl) (pe_lst pa_nil))
  (pss_cons (ps_for PassesOwn.never rfl (pi_list (pe_call G__law_order (hr.mono (by first | decide | omega)) (by rfl) T.g__law_order T.F__law_order.kp T.b__law_order .nil pass0 (pa_cons (pv 0) (pa_cons (pv 1) (pa_cons (pe_call G__law_pick (hr.mono (by first | decide | omega)) (by rfl) T.g__law_pick T.F__law_pick.kp T.b__law_pick .nil pass0 (pa_cons (pv 0) (pa_cons pe_int (pa_cons pe_int pa_nil)))) pa_nil))))) (pg_name (i := 5) sc__law_items.nd rfl (Or.inl rfl))
  (pss_one (ps_if (pt_cmpR op_lt (pe_call G__law_pick (hr.mono (by first | decide | omega)) (by rfl) T.g__law_pick T.F__law_pick.kp T.b__law_pick .nil pass0 (pa_cons (pv 0) (pa_cons (pe_op op_add pe_int (pv 5)) (pa_cons pe_int pa_nil)))) (pv 2) (nomark _))
  (pss_one (ps_expr (pe_bm PySem.F.plainAttrs_list PySem.F.slot_list_append PySem.F.type_list_append mt_append (pv 4) (pa_cons pe_non pa_nil))))
  (pss_one (ps_expr (pe_bm PySem.F.plainAttrs_list PySem.F.slot_list_append PySem.F.type_list_append mt_append (pv 4) (pa_cons (pe_op op_add (pe_op op_mul (pv 5) (pv 3)) (pe_call G__law_pick (hr.mono (by first | decide | omega)) (by rfl) T.g__law_pick T.F__law_pick.kp T.b__law_pick .nil pass0 (pa_cons (pv 0) (pa_cons pe_int (pa_cons pe_int pa_nil))))) pa_nil)))))))
  (pss_one (ps_ret (pe_callTy Gx.cr_tupL (by rfl) T.z_tuple bt_tuple (pa_cons (pv 4) pa_nil))))))))))), ?_⟩
    rw [st__law_items]
    try dsimp only [cxOf]
    walk_at "g"
    refine ⟨a, xs, _, _, rfl, hX, hxl, by omega, ?_⟩
    have hp0 := pick_0 xs 0 (m := 13) (by omega)
    have hp1 := pick_lt xs 0 (m := 13) (by omega)
    generalize pick xs 0 13 = v at *
    walk_at "g"
    refine ⟨fun σ H1 => ∃ m : Int, H1 = H ∧ 0 ≤ m ∧ m ≤ 60 ∧ σ = [some (.ref a), some (.int m), none, none, none, none], ?_, ?_⟩
    · walk_at "g"
      refine ⟨a, xs, _, _, rfl, hX, hxl, by omega, ?_⟩
      walk_at "g"
      refine Gx.iteD (fun _ => ?_) (fun _ => ?_)
      · walk_at "g"
        refine ⟨a, xs, _, _, rfl, hX, hxl, by omega, ?_⟩
        have hw0 := wide_0 xs 2 (m := 61) (by omega)
        have hw1 := wide_lt xs 2 (m := 61) (by omega)
        walk_at "g"
        exact ⟨_, rfl, by omega, by omega, rfl⟩
      · walk_at "g"
        exact ⟨_, rfl, by omega, by omega, rfl⟩
    rintro σ H1 ⟨m, rfl, m0, m1, rfl⟩
    clear hp0 hp1 v
    walk_at "g"
    refine ⟨a, xs, _, _, rfl, hX, hxl, by omega, ?_⟩
    walk_at "g"
    refine ⟨a, xs, _, _, rfl, hX, hxl, by omega, ?_⟩
    have hs0 := pick_0 xs 5 (m := 16) (by omega)
    have hs1 := pick_lt xs 5 (m := 16) (by omega)
    generalize pick xs 5 16 = step at *
    generalize pick xs 4 3 = holes at *
    walk_at "g"
    refine Gx.newL (by simp) (fun F H2 E2 => ?_)
    walk_at "g"
    refine ⟨a, xs, _, _, rfl, E2.same.seq hX, hxl, by omega, ?_⟩
    walk_at "g"
    refine ⟨a, xs, _, _, rfl, E2.same.seq hX, hxl, m0, by omega, fun H3 p ns s3 np e3 nl => ?_⟩
    have nFH := E2.fresh
    have e3F := s3 _ _ E2.at_
    have hX3 := s3.seq (E2.same.seq hX)
    have s13 := E2.same.trans s3
    have hP := SqL.of (K := K) e3
    have npF : p ≠ F := fun z => by rw [z, E2.at_] at np; cases np
    clear E2 s3
    walk_at "g"
    refine ⟨⟨_, hP⟩, for_list (K := K) (a := p) (xs := ns.map V.int) (fun i σ H4 => ∃ (its : List (Option Int)) (y : Option V), Same H1 H4 ∧ H4 F = some (.lst (its.map oV)) ∧ SqL K H4 p (ns.map V.int) ∧ its.length = i ∧ σ = [some (.ref a), some (.int m), some (.int holes), some (.int (1 + step)), some (.ref F), y])
      ⟨[], none, s13, e3F, hP, rfl, rfl⟩ (fun i σ H4 _ ⟨_, _, _, _, h, _⟩ => h) ?_ ?_⟩
    · rintro i x σ H4 hi ⟨its, y, s4, eF, hP4, il, rfl⟩
      have hil := (List.getElem?_eq_some_iff.mp hi).1
      rw [List.length_map] at hil
      rw [List.getElem?_map] at hi
      obtain ⟨n, hn, rfl⟩ := Option.map_eq_some_iff.mp hi
      have hX4 := s4.seq hX
      have put : ∀ o : Option Int, ∃ H5, H5 = upd H4 F (.lst (its.map oV ++ [oV o])) ∧ Same H1 H5 ∧ H5 F = some (.lst ((its ++ [o]).map oV)) ∧ SqL K H5 p (ns.map V.int) := fun o => by
        refine ⟨_, rfl, Gx.Same.put s4 nFH, by rw [upd_same, List.map_append]; rfl, ?_⟩
        rcases hP4 with (h | ⟨o, h⟩) | h
        · exact .inl (.inl (by rw [upd_ne npF]; exact h))
        · exact .inl (.inr ⟨o, by rw [upd_ne npF]; exact h⟩)
        · exact .inr h
      walk_at "g"
      refine ⟨a, xs, _, _, rfl, hX4, hxl, by omega, ?_⟩
      walk_at "g"
      refine Gx.iteD (fun _ => ?_) (fun _ => ?_)
      · walk_at "g"
        refine Gx.app eF (Gx.lineL (by rw [List.length_map]; omega)) ?_
        walk_at "g"
        obtain ⟨H5, e5, h5⟩ := put none
        rw [show V.non = oV none from rfl, ← e5]
        exact ⟨its ++ [none], _, h5.1, h5.2.1, h5.2.2, by rw [List.length_append, il]; rfl, rfl⟩
      · walk_at "g"
        refine ⟨a, xs, _, _, rfl, hX4, hxl, by omega, ?_⟩
        walk_at "g"
        refine Gx.app eF (Gx.lineL (by rw [List.length_map]; omega)) ?_
        walk_at "g"
        obtain ⟨H5, e5, h5⟩ := put (some (n * (1 + step) + pick xs 7 56))
        rw [show V.int (n * (1 + step) + pick xs 7 56) = oV (some (n * (1 + step) + pick xs 7 56)) from rfl, ← e5]
        exact ⟨its ++ [some (n * (1 + step) + pick xs 7 56)], _, h5.1, h5.2.1, h5.2.2, by rw [List.length_append, il]; rfl, rfl⟩
    · rintro σ H4 ⟨its, y, s4, eF, hP4, il, rfl⟩
      rw [List.length_map] at il
      walk_at "g"
      refine Gx.tupL (SqL.of eF) fun t nt => ?_
      exact q _ t its (Gx.Same.put s4 (by
        cases hh : H1 t with
        | none => rfl
        | some o => have := s4 _ _ hh; rw [nt] at this; cases this)) (SqT.of upd_same) (by omega)
def sp_bent (K : PySem.W.Frag) : Sp := fun vs H Q _ => ∃ (a b : Addr) (its : List (Option Int)) (xs : List Int) (at_ : Int), vs = [.ref a, .ref b, .int at_] ∧ SqT K H a (its.map oV) ∧ its.length ≤ 900 ∧ SqL K H b (xs.map V.int) ∧ 0 < xs.length ∧
  ∀ H' p (its' : List (Option Int)), Same H H' → SqT K H' p (its'.map oV) → its'.length ≤ its.length + 1 → Q (.ref p) H'
theorem G__law_bent (T : Txt K mg w) : FnOk P w K mg base CX0 2 T.f__law_bent T.fd__law_bent ["items", "numbers", "at"] (sp_bent K) := by
  have G__law_pick := G__law_pick (P := P) (w := w) (base := base) T
  refine T.F__law_bent.ok sc__law_bent (fun vs H Q E h => ?_) (fun cdv A outer s H vs Q E hr h => ?_)
  · obtain ⟨a, b, its, xs, at_, rfl, _⟩ := h
    rfl
  · obtain ⟨a, b, its, xs, at_, rfl, hI, hil, hX, hxl, q⟩ := h
    refine ⟨_, ((pss_cons (ps_set (i := 3) sc__law_bent.nd rfl (Or.inl rfl) (pe_call G__law_pick (hr.mono (by first | decide | omega)) (by rfl) T.g__law_pick T.F__law_pick.kp T.b__law_pick .nil pass0 (pa_cons (pv 1) (pa_cons (pv 2) (pa_cons pe_int pa_nil)))))
  (pss_cons (ps_set (i := 4) sc__law_bent.nd rfl (Or.inl rfl) pe_int)
  (C8.pss_cut (ps_if (pt_cmpR op_lt (pv 3) pe_int (nomark _))
  (pss_one (ps_set (i := 4) sc__law_bent.nd rfl (Or.inl rfl) (pe_ix ix_list (pe_lst (pa_cons (pe_op op_sub (pe_op op_sub pe_int pe_int) (pe_call G__law_pick (hr.mono (by first | decide | omega)) (by rfl) T.g__law_pick T.F__law_pick.kp T.b__law_pick .nil pass0 (pa_cons (pv 1) (pa_cons (pe_op op_add (pv 2) pe_int) (pa_cons pe_int pa_nil))))) (pa_cons pe_int (pa_cons pe_non (pa_cons pe_int (pa_cons (pe_op op_sub pe_int pe_int) pa_nil)))))) (pv 3) (fun _ _ => rfl))))
  pss_nil)
  (pss_cons (ps_if (pt_cmpR op_eq (pe_callB Gx.cr_lenQ (by rfl) T.z_len bt_len (pa_cons (pv 0) pa_nil)) pe_int (nomark _))
  (pss_one (ps_ret (pe_tup (pa_cons (pv 4) pa_nil))))
  pss_nil)
  (pss_cons (ps_set (i := 5) sc__law_bent.nd rfl (Or.inl rfl) (pe_call G__law_pick (hr.mono (by first | decide | omega)) (by rfl) T.g__law_pick T.F__law_pick.kp T.b__law_pick .nil pass0 (pa_cons (pv 1) (pa_cons (pe_op op_add (pv 2) pe_int) (pa_cons (pe_callB Gx.cr_lenQ (by rfl) T.z_len bt_len (pa_cons (pv 0) pa_nil)) pa_nil)))))
  (C8.pss_cut (ps_if (pt_cmpR op_gt (pv 3) pe_int (nomark _))
  (pss_one (ps_set (i := 4) sc__law_bent.nd rfl (Or.inl rfl) (pe_ix ix_tup (pv 0) (pe_call G__law_pick (hr.mono (by first | decide | omega)) (by rfl) T.g__law_pick T.F__law_pick.kp T.b__law_pick .nil pass0 (pa_cons (pv 1) (pa_cons (pe_op op_add (pv 2) pe_int) (pa_cons (pe_callB Gx.cr_lenQ (by rfl) T.z_len bt_len (pa_cons (pv 0) pa_nil)) pa_nil)))) (fun _ _ => rfl))))
  pss_nil)
  (pss_one (ps_ret (pe_op op_catA (pe_op op_catA (pe_slice sl_tupA (pv 0) po_none (po_some (pv 5))) (pe_tup (pa_cons (pv 4) pa_nil))) (pe_slice sl_tupA (pv 0) (po_some (pe_op op_add (pv 5) pe_int)) po_none))))))))))), ?_⟩
    rw [st__law_bent]
    try dsimp only [cxOf]
    walk_at "g"
    refine ⟨b, xs, _, _, rfl, hX, hxl, by omega, ?_⟩
    have hw0 := pick_0 xs at_ (m := 8) (by omega)
    have hw1 := pick_lt xs at_ (m := 8) (by omega)
    generalize pick xs at_ 8 = wy at *
    walk_at "g"
    refine ⟨fun σ H1 => ∃ o : Option Int, Same H H1 ∧ σ = [some (.ref a), some (.ref b), some (.int at_), some (.int wy), some (oV o), none], ?_, ?_⟩
    · walk_at "g"
      refine Gx.iteD (fun hw => ?_) (fun _ => ?_)
      · walk_at "g"
        refine ⟨b, xs, _, _, rfl, hX, hxl, by omega, ?_⟩
        generalize pick xs (at_ + 1) 3 = v at *
        walk_at "g"
        refine Gx.newL (by simp) (fun F H1 E1 => ?_)
        have hat : ∃ o, atI [V.int (0 - 1 - v), .int 1000, .non, .int 0, .int (0 - 1000)] wy = some (oV o) := by
          have : wy = 0 ∨ wy = 1 ∨ wy = 2 ∨ wy = 3 ∨ wy = 4 := by omega
          rcases this with rfl | rfl | rfl | rfl | rfl
          · exact ⟨some (0 - 1 - v), rfl⟩
          · exact ⟨some 1000, rfl⟩
          · exact ⟨none, rfl⟩
          · exact ⟨some 0, rfl⟩
          · exact ⟨some (0 - 1000), rfl⟩
        obtain ⟨o, ho⟩ := hat
        walk_at "g"
        refine Gx.ixL (SqL.of E1.at_) ho ?_
        walk_at "g"
        exact ⟨o, E1.same, rfl⟩
      · walk_at "g"
        exact ⟨some 0, Same.refl H, rfl⟩
    rintro σ H1 ⟨o, s1, rfl⟩
    replace hI := s1.seqT hI
    replace hX := s1.seq hX
    replace q := fun H' p its' (s : Same H1 H') => q H' p its' (s1.trans s)
    clear s1
    walk_at "g"
    refine Gx.iteD (fun he => ?_) (fun he => ?_)
    · walk_at "g"
      refine Gx.newT (by simp) (fun t H2 E2 => ?_)
      exact q H2 t [o] E2.same (SqT.of E2.at_) (by simp)
    · walk_at "g"
      refine ⟨b, xs, _, _, rfl, hX, hxl, by omega, ?_⟩
      have hk0 := pick_0 xs (at_ + 2) (m := (its.length : Int)) (by omega)
      have hk1 := pick_lt xs (at_ + 2) (m := (its.length : Int)) (by omega)
      generalize pick xs (at_ + 2) (its.length : Int) = k at *
      walk_at "g"
      refine ⟨fun σ H2 => ∃ o : Option Int, H2 = H1 ∧ σ = [some (.ref a), some (.ref b), some (.int at_), some (.int wy), some (oV o), some (.int k)], ?_, ?_⟩
      · walk_at "g"
        refine Gx.iteD (fun _ => ?_) (fun _ => ?_)
        · walk_at "g"
          refine ⟨b, xs, _, _, rfl, hX, hxl, by omega, ?_⟩
          have hk0 := pick_0 xs (at_ + 3) (m := (its.length : Int)) (by omega)
          have hk1 := pick_lt xs (at_ + 3) (m := (its.length : Int)) (by omega)
          generalize pick xs (at_ + 3) (its.length : Int) = j at *
          refine Gx.ixT hI (v := oV its[j.toNat]) (Gx.atI_of (k := j.toNat) (by omega) (by rw [List.getElem?_map, List.getElem?_eq_getElem (by omega)]; rfl)) ?_
          walk_at "g"
          exact ⟨_, rfl, rfl⟩
        · walk_at "g"
          exact ⟨_, rfl, rfl⟩
      rintro σ H2 ⟨o', rfl, rfl⟩
      clear o
      walk_at "g"
      refine Gx.slA hI fun p3 H3 s3 h3 => ?_
      rw [Gx.cutV_A _ hk0] at h3
      walk_at "g"
      refine Gx.newT (by simp) (fun p4 H4 E4 => ?_)
      walk_at "g"
      refine Gx.catA (E4.same.seqT h3) (SqT.of E4.at_) (by rw [List.length_take, List.length_map]; simp; omega) fun p5 H5 s5 h5 => ?_
      have s35 := s3.trans (E4.same.trans s5)
      walk_at "g"
      refine Gx.slA (s35.seqT hI) fun p6 H6 s6 h6 => ?_
      rw [Gx.cutV_B _ (by omega)] at h6
      walk_at "g"
      refine Gx.catA (s6.seqT h5) h6 (by simp; omega) fun p7 H7 s7 h7 => ?_
      refine q H7 p7 (its.take k.toNat ++ [o'] ++ its.drop (k + 1).toNat) (s35.trans (s6.trans s7)) ?_ (by simp; omega)
      rw [List.map_append, List.map_append, List.map_take, List.map_drop]
      exact h7
def sp_valid (K : PySem.W.Frag) : Sp := fun vs H Q _ => ∃ (a : Addr) (its : List (Option Int)), vs = [.ref a] ∧ SqT K H a (its.map oV) ∧ its.length ≤ 1000 ∧ ∀ H', Same H H' → Q (.bl (decide (Okay its))) H'
theorem G__law_valid (T : Txt K mg w) : FnOk P w K mg base CX0 1 T.f__law_valid T.fd__law_valid ["items"] (sp_valid K) := by
  refine T.F__law_valid.ok sc__law_valid (fun vs H Q E h => ?_) (fun cdv A outer s H vs Q E hr h => ?_)
  · obtain ⟨a, its, rfl, _⟩ := h
    rfl
  · obtain ⟨a, its, rfl, hI, hil, q⟩ := h
    refine ⟨_, ((pss_cons (ps_setLc (i := 1) (own := [("item", 2)]) (g := (gName 2))  rfl sc__law_valid.nd rfl rfl (sw_true rfl rfl rfl (by decide +kernel)) (pi_tup (pv 0)) (blkOk_by (N := ["items", "taken", "item"]) (sc := defScope s__law_valid) (by decide +kernel)) (fun _ _ _ _ _ => (pg_name (i := 2) sc__law_valid.nd rfl (Or.inl rfl))) (fun _ _ _ _ _ => (pts_one (pt_cmpR Gx.op_notNG (pv 2) pe_non (nomark _)))) (fun _ _ _ _ _ => (pv 2)))
  (pss_one (ps_ret (pe_and (pe_cmpR op_eq (pe_callB Gx.cr_lenQ (by rfl) T.z_len bt_len (pa_cons (pe_lc (own := [("item", 2)]) (g := (gName 2))  (by rfl) sc__law_valid.nd (pi_list (pv 1)) (blkOk_by (N := ["items", "taken", "item"]) (sc := defScope s__law_valid) (by decide +kernel)) (fun _ _ _ _ _ => (pg_name (i := 2) sc__law_valid.nd rfl (Or.inl rfl))) (fun _ _ _ _ _ => (pts_one (pt_cmpR op_lt (pv 2) pe_int (nomark _)))) (fun _ _ _ _ _ => (pv 2))) pa_nil)) pe_int (nomark _)) (pe_one (pe_cmpR op_eq (Gx.pe_lenSet (by rfl) T.z_len (by rfl) T.z_set (pv 1)) (pe_callB Gx.cr_lenQ (by rfl) T.z_len bt_len (pa_cons (pv 1) pa_nil)) (nomark _)))))))), ?_⟩
    rw [st__law_valid]
    try dsimp only [cxOf]
    walk_at "g"
    refine ⟨⟨_, hI⟩, fun D nD => lc_tup (K := K) (a := a) (xs := its.map oV) (fun i H' => Same H H' ∧ H' D = some (.lst (((its.take i).filterMap id).map V.int))) ⟨Gx.Same.put (Same.refl H) nD, upd_same⟩ (fun i H' _ z => z.1.seqT hI) ?_ ?_⟩
    · rintro i x H1 hi ⟨s1, e1⟩
      rw [List.getElem?_map] at hi
      obtain ⟨o, ho, rfl⟩ := Option.map_eq_some_iff.mp hi
      have et : its.take (i + 1) = its.take i ++ [o] := by rw [List.take_add_one, ho]; rfl
      have hfl := List.length_filterMap_le id (its.take i)
      rw [List.length_take] at hfl
      walk_at "g"
      refine ⟨rfl, ?_⟩
      cases o with
      | none =>
        rw [show oV none = V.non from rfl]
        walk_at "g"
        refine ⟨s1, ?_⟩
        rw [e1, et, List.filterMap_append]
        simp
      | some v =>
        rw [show oV (some v) = V.int v from rfl]
        walk_at "g"
        refine ⟨_, e1, Gx.lineL (by rw [List.length_map]; omega), Gx.Same.put s1 nD, ?_⟩
        rw [upd_same, et, List.filterMap_append, List.map_append]
        rfl
    · rintro H1 ⟨s1, e1⟩
      rw [List.length_map, List.take_length] at e1
      have hT := SqL.of (K := K) e1
      have hfl := List.length_filterMap_le id its
      walk_at "g"
      refine ⟨⟨_, hT⟩, fun D2 nD2 => lc_list (K := K) (a := D) (xs := (its.filterMap id).map V.int) (fun i H' => Same H1 H' ∧ H' D2 = some (.lst ((((its.filterMap id).take i).filter fun x => decide (x < 0)).map V.int))) ⟨Gx.Same.put (Same.refl H1) nD2, upd_same⟩ (fun i H' _ z => z.1.seq hT) ?_ ?_⟩
      · rintro i x H2 hi ⟨s2, e2⟩
        rw [List.getElem?_map] at hi
        obtain ⟨v, hv, rfl⟩ := Option.map_eq_some_iff.mp hi
        have et : (its.filterMap id).take (i + 1) = (its.filterMap id).take i ++ [v] := by rw [List.take_add_one, hv]; rfl
        have hfl2 := List.length_filter_le (fun x => decide (x < 0)) ((its.filterMap id).take i)
        rw [List.length_take] at hfl2
        walk_at "g"
        refine ⟨rfl, ?_⟩
        walk_at "g"
        refine Gx.iteD (fun hv0 => ?_) (fun hv0 => ?_)
        · walk_at "g"
          refine ⟨_, e2, Gx.lineL (by rw [List.length_map]; omega), Gx.Same.put s2 nD2, ?_⟩
          rw [upd_same, et, List.filter_append, List.map_append]
          simp [hv0]
        · refine ⟨s2, ?_⟩
          rw [e2, et, List.filter_append]
          simp [hv0]
      · rintro H2 ⟨s2, e2⟩
        rw [List.length_map, List.take_length] at e2
        have hfl2 := List.length_filter_le (fun x => decide (x < 0)) (its.filterMap id)
        have hD2 := SqL.of (K := K) e2
        walk_at "g"
        refine Gx.and2 (p2 := (its.filterMap id).Nodup) (fun h1 Q' hQ' => ?_) ?_
        · walk_at "g"
          refine ⟨D, _, rfl, s2.seq hT, by omega, ?_⟩
          have hT2 := s2.seq hT
          walk_at "g"
          have iffn : decide (((its.filterMap id).eraseDups.length : Int) = ((its.filterMap id).length : Nat)) = decide ((its.filterMap id).Nodup) := decide_eq_decide.mpr ⟨fun h => Gx.edups_nodup.mp (by omega), fun h => by rw [Gx.edups_nodup.mpr h]⟩
          rw [iffn]
          exact hQ'
        · have e : decide ((((its.filterMap id).filter fun x => decide (x < 0)).length : Int) = 0 ∧ (its.filterMap id).Nodup) = decide (Okay its) := decide_eq_decide.mpr ⟨fun h => ⟨h.2, fun x hx => by
              have h0 := List.eq_nil_of_length_eq_zero (show ((its.filterMap id).filter fun x => decide (x < 0)).length = 0 by omega)
              apply Int.not_lt.mp
              intro z
              have : x ∈ (its.filterMap id).filter fun x => decide (x < 0) := List.mem_filter.mpr ⟨hx, by simpa using z⟩
              rw [h0] at this
              cases this⟩, fun h => ⟨by
              have : ((its.filterMap id).filter fun x => decide (x < 0)) = [] := List.filter_eq_nil_iff.mpr fun x hx => by have := h.2 x hx; simp; omega
              rw [this]
              rfl, h.1⟩⟩
          rw [e]
          exact q H2 (s1.trans s2)
def sp_ascends (K : PySem.W.Frag) : Sp := fun vs H Q _ => ∃ (a : Addr) (xs : List Int), vs = [.ref a] ∧ Gx.Sq K H a (xs.map V.int) ∧ xs.length ≤ 1000 ∧ xs.Pairwise (· < ·) ∧ ∀ H', Same H H' → Q (.bl true) H'
theorem G__law_ascends (T : Txt K mg w) : FnOk P w K mg base CX0 1 T.f__law_ascends T.fd__law_ascends ["numbers"] (sp_ascends K) := by
  refine T.F__law_ascends.ok sc__law_ascends (fun vs H Q E h => ?_) (fun cdv A outer s H vs Q E hr h => ?_)
  · obtain ⟨a, xs, rfl, _⟩ := h
    rfl
  · obtain ⟨a, xs, rfl, hX, hxl, hasc, q⟩ := h
    refine ⟨_, ((pss_one (ps_ret (pe_cmpR op_eq (pe_callB Gx.cr_lenQ (by rfl) T.z_len bt_len (pa_cons (pe_lc (own := [("k", 1)]) (g := (gName 1))  (by rfl) sc__law_ascends.nd (pi_range2 rfl T.z_range (pa_cons pe_int (pa_cons (pe_callB Gx.cr_lenQ (by rfl) T.z_len bt_len (pa_cons (pv 0) pa_nil)) pa_nil))) (blkOk_by (N := ["numbers", "k"]) (sc := defScope s__law_ascends) (by decide +kernel)) (fun _ _ _ _ _ => (pg_name (i := 1) sc__law_ascends.nd rfl (Or.inl rfl))) (fun _ _ _ _ _ => (pts_one (pt_cmpR op_ge (pe_ix (r := rIx K) ix_seq (pv 0) (pe_op op_sub (pv 1) pe_int) (fun _ _ => rfl)) (pe_ix (r := rIx K) ix_seq (pv 0) (pv 1) (fun _ _ => rfl)) (nomark _)))) (fun _ _ _ _ _ => (pv 1))) pa_nil)) pe_int (nomark _))))), ?_⟩
    rw [st__law_ascends]
    try dsimp only [cxOf]
    walk_at "g"
    refine Gx.lenQ hX ?_
    rw [List.length_map]
    walk_at "g"
    refine ⟨_, _, rfl, by omega, fun D nD => lc_range (lo := 1) (n := ((xs.length : Int) - 1).toNat) (fun i H' => Same H H' ∧ H' D = some (.lst [])) ⟨Gx.Same.put (Same.refl H) nD, upd_same⟩ ?_ ?_⟩
    · rintro i H1 hi ⟨s1, e1⟩
      walk_at "g"
      refine ⟨rfl, ?_⟩
      have hX1 := hX.same s1
      walk_at "g"
      refine Gx.ixQ hX1 (k := i) (by omega) (v := .int xs[i]) (by rw [List.getElem?_map, List.getElem?_eq_getElem (by omega)]; rfl) ?_
      walk_at "g"
      refine Gx.ixQ hX1 (k := i + 1) (by omega) (v := .int xs[i + 1]) (by rw [List.getElem?_map, List.getElem?_eq_getElem (by omega)]; rfl) ?_
      have := List.pairwise_iff_getElem.mp hasc i (i + 1) (by omega) (by omega) (by omega)
      walk_at "g"
      refine Gx.iteD (fun _ => by omega) (fun _ => ⟨s1, e1⟩)
    · rintro H1 ⟨s1, e1⟩
      have hD1 := SqL.of (K := K) e1
      walk_at "g"
      exact q H1 s1
end
end K39
namespace K39
open PySem PySem.Spec PyProof.Rows L2
local macro_rules | `(tactic| walk_at "con") => `(tactic| first | fail)
section
variable {P : Program} {w : World} {K : PySem.W.Frag} {mg : Str → Option Value} {base : Heap}
theorem nV_ints (l : List Nat) : nV l = (l.map fun n : Nat => (n : Int)).map V.int := by unfold nV; rw [List.map_map]; rfl
/-- what the longest run up to each place is -/
structure Lng (xs : List Int) (p : Nat → Nat) (m : Nat) : Prop where
  lo : ∀ j k, j < k → k < xs.length → xs.getD j 0 < xs.getD k 0 → p j < p k
  hi : ∀ k, k < xs.length → p k = 1 ∨ ∃ j, j < k ∧ xs.getD j 0 < xs.getD k 0 ∧ p k = p j + 1
  pos : ∀ k, k < xs.length → 1 ≤ p k
  top : ∀ k, k < xs.length → p k ≤ m
  max : m = 0 ∨ ∃ k, k < xs.length ∧ p k = m
theorem int_getM {xs : List Int} {i : Nat} (h : i < xs.length) : (xs.map V.int)[i]? = some (.int (xs.getD i 0)) := by
  rw [List.getElem?_map, List.getD_eq_getElem?_getD, List.getElem?_eq_getElem h]
  rfl
def sp_longest (K : PySem.W.Frag) : Sp := fun vs H Q _ => ∃ (a : Addr) (xs : List Int) (p : Nat → Nat) (m : Nat), vs = [.ref a] ∧ SqL K H a (xs.map V.int) ∧ xs.length ≤ 1000 ∧ Lng xs p m ∧ ∀ H', Same H H' → Q (.int (m : Nat)) H'
theorem G__law_longest (T : Txt K mg w) : FnOk P w K mg base CX0 1 T.f__law_longest T.fd__law_longest ["numbers"] (sp_longest K) := by
  refine T.F__law_longest.ok sc__law_longest (fun vs H Q E h => ?_) (fun cdv A outer s H vs Q E hr h => ?_)
  · obtain ⟨a, xs, p, m, rfl, _⟩ := h
    rfl
  · obtain ⟨a, xs, p, m, rfl, hX, hxl, L, q⟩ := h
    refine ⟨_, ((pss_cons (ps_set (i := 1) sc__law_longest.nd rfl (Or.inr rfl) (pe_lst pa_nil))
  (pss_cons (ps_for PassesOwn.never rfl (pi_range1 rfl T.z_range (pa_cons (pe_callB Gx.cr_lenQ (by rfl) T.z_len bt_len (pa_cons (pv 0) pa_nil)) pa_nil)) (pg_name (i := 2) sc__law_longest.nd rfl (Or.inr rfl))
  (pss_one (ps_expr (pe_bm PySem.F.plainAttrs_list PySem.F.slot_list_append PySem.F.type_list_append mt_append (pv 1) (pa_cons (pe_op op_add pe_int (pe_callB (cr_max rfl) (by rfl) T.z_max bt_max (pa_cons (pe_op op_cat (pe_lst (pa_cons pe_int pa_nil)) (pe_lc (own := [("j", 3)]) (g := (gName 3))  (by rfl) sc__law_longest.nd (pi_range1 rfl T.z_range (pa_cons (pv 2) pa_nil)) (blkOk_by (N := ["numbers", "best", "k", "j"]) (sc := defScope s__law_longest) (by decide +kernel)) (fun _ _ _ _ _ => (pg_name (i := 3) sc__law_longest.nd rfl (Or.inl rfl))) (fun _ _ _ _ _ => (pts_one (pt_cmpR op_lt (pe_ix (r := rIxL K) ix_list (pv 0) (pv 3) (fun _ _ => rfl)) (pe_ix (r := rIxL K) ix_list (pv 0) (pv 2) (fun _ _ => rfl)) (nomark _)))) (fun _ _ _ _ _ => (pe_ix (r := rIxL K) ix_list (pv 1) (pv 3) (fun _ _ => rfl))))) pa_nil))) pa_nil)))))
  (pss_one (ps_ret (pe_callB (cr_max rfl) (by rfl) T.z_max bt_max (pa_cons (pe_op op_cat (pe_lst (pa_cons pe_int pa_nil)) (pv 1)) pa_nil))))))), ?_⟩
    rw [st__law_longest]
    try dsimp only [cxOf]
    walk_at "g"
    refine Gx.newL (by simp) (fun F H1 E1 => ?_)
    walk_at "g"
    have hX1 := E1.same.seq hX
    walk_at "g"
    refine ⟨_, rfl, by omega, by omega, for_range (fun i σ H2 => ∃ (y1 y2 : Option V), Same H H2 ∧ H2 F = some (.lst (nV ((List.range i).map p))) ∧ σ = [some (.ref a), some (.ref F), y1, y2]) ⟨none, none, E1.same, E1.at_, rfl⟩ ?_ ?_⟩
    · rintro i σ H2 hi ⟨y1, y2, s2, e2, rfl⟩
      have hil : i < xs.length := by omega
      have hF := SqL.of (K := K) e2
      have hX2 := s2.seq hX
      walk_at "g"
      refine Gx.newL (by simp) (fun Z HZ EZ => ?_)
      walk_at "g"
      have eF3 := EZ.same _ _ e2
      have hF3 := SqL.of (K := K) eF3
      have hX3 := EZ.same.seq hX2
      refine ⟨_, rfl, by omega, by omega, fun D nD => lc_range (lo := 0) (n := (0 + (i : Int)).toNat) (fun j H' => Same HZ H' ∧ H' D = some (.lst (nV (((List.range j).filter fun j => decide (xs.getD j 0 < xs.getD i 0)).map p)))) ⟨Gx.Same.put (Same.refl HZ) nD, upd_same⟩ ?_ ?_⟩
      · rintro j H3 hj ⟨s3, e3⟩
        have hji : j < i := by omega
        have hfl := List.length_filter_le (fun j => decide (xs.getD j 0 < xs.getD i 0)) (List.range j)
        rw [List.length_range] at hfl
        walk_at "g"
        refine ⟨rfl, ?_⟩
        walk_at "g"
        refine Gx.ixL (s3.seq hX3) (Gx.atI_of (k := j) (by omega) (int_getM (by omega))) ?_
        walk_at "g"
        refine Gx.ixL (s3.seq hX3) (Gx.atI_of (k := i) (by omega) (int_getM (by omega))) ?_
        walk_at "g"
        refine Gx.iteD (fun hc => ?_) (fun hc => ?_)
        · walk_at "g"
          refine Gx.ixL (s3.seq hF3) (v := .int (p j : Nat)) (Gx.atI_of (k := j) (by omega) (by rw [nV, List.getElem?_map, List.getElem?_map, List.getElem?_range hji]; rfl)) ?_
          refine ⟨_, e3, Gx.lineL (by rw [nV_len, List.length_map]; omega), Gx.Same.put s3 nD, ?_⟩
          rw [upd_same, List.range_succ, List.filter_append, List.map_append, nV_app]
          simp only [List.filter_cons, List.filter_nil, decide_eq_true hc, if_true]
          rfl
        · refine ⟨s3, ?_⟩
          rw [e3, List.range_succ, List.filter_append]
          simp only [List.filter_cons, List.filter_nil, decide_eq_false hc]
          simp
      · rintro H3 ⟨s3, e3⟩
        have hn : (0 + (i : Int)).toNat = i := by omega
        rw [hn] at e3
        have hD := SqL.of (K := K) e3
        have hfl := List.length_filter_le (fun j => decide (xs.getD j 0 < xs.getD i 0)) (List.range i)
        rw [List.length_range] at hfl
        walk_at "g"
        have e3Z := s3 _ _ EZ.at_
        refine Gx.cat1 e3Z e3 (by rw [nV_len, List.length_map]; show 1 + _ ≤ _; omega) (fun O H4 E4 => ?_)
        have eF4 := E4.same _ _ (s3 _ _ eF3)
        have em : (V.int 0 :: nV (((List.range i).filter fun j => decide (xs.getD j 0 < xs.getD i 0)).map p)) = (((0 :: ((List.range i).filter fun j => decide (xs.getD j 0 < xs.getD i 0)).map p)).map fun n : Nat => (n : Int)).map V.int := nV_ints (0 :: _)
        have hO : SqL K H4 O ((((0 :: ((List.range i).filter fun j => decide (xs.getD j 0 < xs.getD i 0)).map p)).map fun n : Nat => (n : Int)).map V.int) := by
          rw [← em]
          exact SqL.of E4.at_
        walk_at "g"
        refine ⟨O, _, rfl, hO, by simp, fun z hz hle => ?_⟩
        have hz2 : 1 + z = (p i : Nat) := by
          have h1 := L.hi i hil
          have h2 := L.pos i hil
          obtain ⟨zn, hzn, rfl⟩ := List.mem_map.mp hz
          have up : zn + 1 ≤ p i := by
            rcases List.mem_cons.mp hzn with rfl | hzn
            · omega
            · obtain ⟨j, hj, rfl⟩ := List.mem_map.mp hzn
              obtain ⟨hj1, hj2⟩ := List.mem_filter.mp hj
              have := L.lo j i (List.mem_range.mp hj1) hil (of_decide_eq_true hj2)
              omega
          rcases h1 with h1 | ⟨j, hj, hlt, ej⟩
          · omega
          · have := hle (p j : Nat) (List.mem_map.mpr ⟨p j, List.mem_cons_of_mem _ (List.mem_map.mpr ⟨j, List.mem_filter.mpr ⟨List.mem_range.mpr hj, decide_eq_true hlt⟩, rfl⟩), rfl⟩)
            omega
        walk_at "g"
        rw [hz2]
        refine Gx.app eF4 (Gx.lineL (by rw [nV_len, List.length_map, List.length_range]; omega)) ?_
        walk_at "g"
        refine ⟨_, _, Gx.Same.put (s2.trans (EZ.same.trans (s3.trans E4.same))) E1.fresh, ?_, rfl⟩
        rw [upd_same, List.range_succ, List.map_append, nV_app]
        rfl
    · rintro σ H2 ⟨y1, y2, s2, e2, rfl⟩
      rw [Int.toNat_natCast] at e2
      walk_at "g"
      refine Gx.newL (by simp) (fun Z HZ EZ => ?_)
      walk_at "g"
      refine Gx.cat1 EZ.at_ (EZ.same _ _ e2) (by rw [nV_len, List.length_map, List.length_range]; simp; omega) (fun O H4 E4 => ?_)
      have hO : SqL K H4 O ((((0 :: (List.range xs.length).map p)).map fun n : Nat => (n : Int)).map V.int) := by
        have em : (V.int 0 :: nV ((List.range xs.length).map p)) = (((0 :: (List.range xs.length).map p)).map fun n : Nat => (n : Int)).map V.int := nV_ints (0 :: _)
        rw [← em]
        exact SqL.of E4.at_
      walk_at "g"
      refine ⟨O, _, rfl, hO, by simp, fun z hz hle => ?_⟩
      have hz2 : z = (m : Nat) := by
        obtain ⟨zn, hzn, rfl⟩ := List.mem_map.mp hz
        have up : zn ≤ m := by
          rcases List.mem_cons.mp hzn with rfl | hzn
          · omega
          · obtain ⟨j, hj, rfl⟩ := List.mem_map.mp hzn
            exact L.top j (List.mem_range.mp hj)
        rcases L.max with h1 | ⟨j, hj, ej⟩
        · omega
        · have := hle (p j : Nat) (List.mem_map.mpr ⟨p j, List.mem_cons_of_mem _ (List.mem_map.mpr ⟨j, List.mem_range.mpr hj, rfl⟩), rfl⟩)
          omega
      rw [hz2]
      exact q H4 (s2.trans (EZ.same.trans E4.same))
theorem inV_nats (o : List Nat) (t : Nat) : inV (.int (t : Nat)) (nV o) = decide (t ∈ o) := by
  unfold inV nV
  induction o with
  | nil => simp
  | cons x o ih =>
    rw [List.map_cons, List.any_cons, ih]
    show (((x : Int) == (t : Int)) || _) = _
    by_cases e : x = t
    · subst e
      simp
    · have : ((x : Int) == (t : Int)) = false := by simp; omega
      rw [this]
      simp [Ne.symm e]
theorem flat_nats (o : List Nat) : (nV o).all flatV = true := by
  unfold nV
  induction o with
  | nil => rfl
  | cons x o ih => rw [List.map_cons, List.all_cons, ih]; rfl
theorem notInN {H : Hp} {Q : VK} {p : Addr} {o : List Nat} {t : Nat} (h : SqL K H p (nV o)) (q : Q (.bl (!decide (t ∈ o))) H) : rIn K true (.int (t : Nat)) (.ref p) H Q := ⟨p, _, rfl, .inl h, rfl, flat_nats o, by rw [inV_nats]; exact q⟩
def sp_places (K : PySem.W.Frag) : Sp := fun vs H Q _ => ∃ (a b : Addr) (row os : List Nat), vs = [.ref a, .ref b] ∧ SqT K H a (nV row) ∧ SqL K H b (nV os) ∧ row.length ≤ 1000 ∧ (∀ x ∈ row, x ∈ os) ∧ row.Pairwise (· < ·) ∧ ∀ H', Same H H' → Q (.bl true) H'
theorem asc_ints {l : List Nat} (h : l.Pairwise (· < ·)) : (l.map fun n : Nat => (n : Int)).Pairwise (· < ·) := List.pairwise_map.mpr (h.imp fun h => by omega)
theorem G__law_places (T : Txt K mg w) : FnOk P w K mg base CX0 2 T.f__law_places T.fd__law_places ["row", "taken"] (sp_places K) := by
  have G__law_ascends := G__law_ascends (P := P) (w := w) (base := base) T
  refine T.F__law_places.ok sc__law_places (fun vs H Q E h => ?_) (fun cdv A outer s H vs Q E hr h => ?_)
  · obtain ⟨a, b, row, os, rfl, _⟩ := h
    rfl
  · obtain ⟨a, b, row, os, rfl, hR, hO, hrl, hin, hasc, q⟩ := h
    refine ⟨_, ((pss_cons (ps_if (pt_not (pt_val (pe_callB call_isi (by rfl) T.z_isinstance bt_isinstance (pa_cons (pv 0) (pa_cons (pe_bltn (v := .ty "tuple") rfl T.z_tuple bt_tuple rfl) pa_nil)))))
  (pss_one (ps_ret pe_bl))
  pss_nil)
  (pss_cons (ps_for PassesOwn.never rfl (pi_tup (pv 0)) (pg_name (i := 2) sc__law_places.nd rfl (Or.inl rfl))
  (pss_one (ps_if (PW.pt (pw_or (pt_not (pt_val (pe_callB call_isi (by rfl) T.z_isinstance bt_isinstance (pa_cons (pv 2) (pa_cons (pe_bltn (v := .ty "int") rfl T.z_int bt_int rfl) pa_nil))))) (pw_or (pt_val (pe_callB call_isi (by rfl) T.z_isinstance bt_isinstance (pa_cons (pv 2) (pa_cons (pe_bltn (v := .ty "bool") rfl T.z_bool bt_bool rfl) pa_nil)))) (pw_or1 (pt_cmpR op_notIn_seq (pv 2) (pv 1) rfl)))))
  (pss_one (ps_ret pe_bl))
  pss_nil)))
  (pss_one (ps_ret (pe_call G__law_ascends (hr.mono (by first | decide | omega)) (by rfl) T.g__law_ascends T.F__law_ascends.kp T.b__law_ascends .nil pass0 (pa_cons (pv 0) pa_nil))))))), ?_⟩
    rw [st__law_places]
    try dsimp only [cxOf]
    walk_at "g"
    refine ⟨⟨_, hR⟩, for_tup (K := K) (a := a) (xs := nV row) (fun i σ H1 => ∃ y, H1 = H ∧ σ = [some (.ref a), some (.ref b), y]) ⟨none, rfl, rfl⟩ (fun i σ H1 _ ⟨_, e, _⟩ => by rw [e]; exact hR) ?_ ?_⟩
    · rintro i x σ H1 hi ⟨y, rfl, rfl⟩
      rw [nV, List.getElem?_map] at hi
      obtain ⟨n, hn, rfl⟩ := Option.map_eq_some_iff.mp hi
      have hmem := hin n (List.mem_of_getElem? hn)
      walk_at "g"
      refine notInN hO ?_
      rw [decide_eq_true hmem]
      walk_at "g"
      exact ⟨_, rfl, rfl⟩
    · rintro σ H1 ⟨y, rfl, rfl⟩
      walk_at "g"
      refine ⟨a, row.map fun n : Nat => (n : Int), rfl, .inr (by rw [← nV_ints]; exact hR), by rw [List.length_map]; exact hrl, asc_ints hasc, q⟩
theorem Piles.heads {r : Nat → Int} {done : List Nat} {pi : Nat → Nat} {bf : Nat → Option Nat} {N : Nat} (h : Piles r done pi bf N) {n : Nat} (hn : n < N) : ∃ y l, rowOf done pi n = y :: l := by
  obtain ⟨ys, t, e, _⟩ := h.top hn
  cases ys with
  | nil => exact ⟨t, [], e⟩
  | cons y ys => exact ⟨y, ys ++ [t], e⟩
def hdN (done : List Nat) (pi : Nat → Nat) (n : Nat) : Nat := (rowOf done pi n).headD 0
theorem hdN_le {done : List Nat} {pi : Nat → Nat} {n x : Nat} (ha : done.Pairwise (· < ·)) (hx : x ∈ rowOf done pi n) : hdN done pi n ≤ x := by
  have h := rowOf_asc ha pi n
  unfold hdN
  cases e : rowOf done pi n with
  | nil => rw [e] at hx; cases hx
  | cons y l =>
    rw [e] at hx h
    rcases List.mem_cons.mp hx with rfl | hx
    · exact Nat.le_refl _
    · exact Nat.le_of_lt ((List.pairwise_cons.mp h).1 x hx)
theorem Piles.hd1 {r : Nat → Int} {done : List Nat} {pi : Nat → Nat} {bf : Nat → Option Nat} {N : Nat} (h : Piles r done pi bf N) {n : Nat} (hn : n + 1 < N) : hdN done pi n < hdN done pi (n + 1) := by
  obtain ⟨y, l, e⟩ := h.heads hn
  have hy : y ∈ rowOf done pi (n + 1) := by rw [e]; simp
  obtain ⟨y1, y2⟩ := mem_rowOf.mp hy
  have ey : hdN done pi (n + 1) = y := by unfold hdN; rw [e]; rfl
  rcases h.e y y1 with ⟨z, _⟩ | ⟨x, hx, _, h1, _, h3⟩
  · omega
  · have := hdN_le h.asc (mem_rowOf.mpr ⟨hx, show pi x = n by omega⟩)
    omega
theorem Piles.hdk {r : Nat → Int} {done : List Nat} {pi : Nat → Nat} {bf : Nat → Option Nat} {N : Nat} (h : Piles r done pi bf N) : ∀ (k n : Nat), n + k + 1 < N → hdN done pi n < hdN done pi (n + k + 1)
  | 0, n, hn => h.hd1 hn
  | k + 1, n, hn => by
    have h1 := h.hdk k n (by omega)
    have h2 := h.hd1 (n := n + k + 1) (by omega)
    rw [show n + (k + 1) + 1 = n + k + 1 + 1 by omega]
    omega
theorem Piles.hdasc {r : Nat → Int} {done : List Nat} {pi : Nat → Nat} {bf : Nat → Option Nat} {N : Nat} (h : Piles r done pi bf N) : ((List.range N).map (hdN done pi)).Pairwise (· < ·) := by
  rw [List.pairwise_iff_getElem]
  intro i j hi hj l
  rw [List.length_map, List.length_range] at hi hj
  rw [List.getElem_map, List.getElem_map, List.getElem_range, List.getElem_range]
  have := h.hdk (j - i - 1) i (by omega)
  rw [show i + (j - i - 1) + 1 = j by omega] at this
  exact this
theorem Piles.perm {r : Nat → Int} {done : List Nat} {pi : Nat → Nat} {bf : Nat → Option Nat} {N : Nat} (h : Piles r done pi bf N) : ((List.range N).map (rowOf done pi)).flatten.Perm done := by
  have nd : done.Nodup := h.asc.imp fun h => by omega
  refine (List.perm_ext_iff_of_nodup ?_ nd).mpr fun x => ?_
  · unfold List.Nodup
    rw [List.pairwise_flatten]
    refine ⟨fun l hl => ?_, ?_⟩
    · obtain ⟨n, _, rfl⟩ := List.mem_map.mp hl
      exact (rowOf_asc h.asc pi n).imp fun h => by omega
    · rw [List.pairwise_map]
      refine List.nodup_range.imp fun {a b} hab x hx y hy e => ?_
      obtain ⟨_, h1⟩ := mem_rowOf.mp hx
      obtain ⟨_, h2⟩ := mem_rowOf.mp hy
      subst e
      omega
  · rw [List.mem_flatten]
    constructor
    · rintro ⟨l, hl, hx⟩
      obtain ⟨n, _, rfl⟩ := List.mem_map.mp hl
      exact (mem_rowOf.mp hx).1
    · intro hx
      exact ⟨_, List.mem_map.mpr ⟨pi x, List.mem_range.mpr (h.lt x hx), rfl⟩, mem_rowOf.mpr ⟨hx, rfl⟩⟩
theorem getD_map_int (os : List Nat) (r : Nat → Int) {k : Nat} (h : k < os.length) : (os.map r).getD k 0 = r (os.getD k 0) := by
  rw [List.getD_eq_getElem?_getD, List.getD_eq_getElem?_getD, List.getElem?_map, List.getElem?_eq_getElem h]
  rfl
theorem Piles.lng {r : Nat → Int} {os : List Nat} {pi : Nat → Nat} {bf : Nat → Option Nat} {N : Nat} (h : Piles r os pi bf N) : Lng (os.map r) (fun k => pi (os.getD k 0) + 1) N := by
  have hm : ∀ k, k < os.length → os.getD k 0 ∈ os := fun k hk => by rw [List.getD_eq_getElem?_getD, List.getElem?_eq_getElem hk]; exact List.getElem_mem hk
  have hlt : ∀ j k, j < k → k < os.length → os.getD j 0 < os.getD k 0 := fun j k hj hk => by
    rw [List.getD_eq_getElem?_getD, List.getD_eq_getElem?_getD, List.getElem?_eq_getElem hk, List.getElem?_eq_getElem (by omega)]
    exact List.pairwise_iff_getElem.mp h.asc j k (by omega) hk hj
  refine ⟨fun j k hj hk l => ?_, fun k hk => ?_, fun k hk => by omega, fun k hk => ?_, ?_⟩
  · rw [List.length_map] at hk
    rw [getD_map_int os r (by omega), getD_map_int os r hk] at l
    have := h.f _ (hm j (by omega)) _ (hm k hk) (hlt j k hj hk) l
    omega
  · rw [List.length_map] at hk
    rcases h.e _ (hm k hk) with ⟨z, _⟩ | ⟨x, hx, _, h1, h2, h3⟩
    · left; omega
    · right
      obtain ⟨j, hj, rfl⟩ := List.mem_iff_getElem.mp hx
      have ej : os.getD j 0 = os[j] := by rw [List.getD_eq_getElem?_getD, List.getElem?_eq_getElem hj]; rfl
      have hjk : j < k := by
        rcases Nat.lt_trichotomy j k with l | l | l
        · exact l
        · subst l; omega
        · have := hlt k j l hj; omega
      refine ⟨j, hjk, ?_, by rw [ej]; omega⟩
      rw [getD_map_int os r hj, getD_map_int os r hk, ej]
      exact h2
  · rw [List.length_map] at hk
    have := h.lt _ (hm k hk)
    omega
  · by_cases hN : N = 0
    · exact .inl hN
    · obtain ⟨x, hx, ex⟩ := h.ne (N - 1) (by omega)
      obtain ⟨j, hj, rfl⟩ := List.mem_iff_getElem.mp hx
      have ej : os.getD j 0 = os[j] := by rw [List.getD_eq_getElem?_getD, List.getElem?_eq_getElem hj]; rfl
      exact .inr ⟨j, by rw [List.length_map]; exact hj, by rw [ej]; omega⟩
theorem rkI_get {its : List (Option Int)} {f : Bool} {x : Nat} (h : x ∈ osI its) : ∃ v, its[x]? = some (some v) ∧ rkI its f x = (if f then -v else v) := by
  obtain ⟨p, hp, rfl⟩ := List.mem_map.mp h
  have := (rkF_lt its 0 p hp).2.2
  rw [Nat.sub_zero] at this
  exact ⟨p.2, this, by unfold rkI; rw [this]⟩
theorem osI_take {its : List (Option Int)} {i : Nat} {o : Option Int} (h : its[i]? = some o) : osI (its.take (i + 1)) = osI (its.take i) ++ (if o.isSome then [i] else []) := by
  have hl := (List.getElem?_eq_some_iff.mp h).1
  unfold osI
  rw [List.take_add_one, h, Option.toList_some, rkF_app, List.map_append, List.length_take, show 0 + min i its.length = i by omega]
  cases o <;> rfl
end
end K39
namespace K39
open PySem PySem.Spec PyProof.Rows L2
local macro_rules | `(tactic| walk_at "con") => `(tactic| first | fail)
section
variable {P : Program} {w : World} {K : PySem.W.Frag} {mg : Str → Option Value} {base : Heap}
theorem eqv_nats : ∀ l : List Nat, PyData.eqvAll (l.map fun n => PyData.int (n : Nat)) (l.map fun n => PyData.int (n : Nat)) = true
  | [] => by simp [PyData.eqvAll]
  | n :: l => by rw [List.map_cons, PyData.eqvAll, PyData.eqv, eqv_nats l]; simp
theorem can_nats : ∀ l : List Nat, PyData.canLayAll0 (l.map fun n => PyData.int (n : Nat)) = true
  | [] => rfl
  | x :: l => by rw [List.map_cons, PyData.canLayAll0, can_nats l, PyData.canLay0]; rfl
theorem dep_nats : ∀ l : List Nat, PyData.depthAll (l.map fun n => PyData.int (n : Nat)) = 0
  | [] => by simp [PyData.depthAll]
  | x :: l => by rw [List.map_cons, PyData.depthAll, dep_nats l, PyData.depth]; rfl
theorem shaped_nats (l : List Nat) : SeqAt.shaped (.list (l.map fun n => PyData.int (n : Nat))) = true := by
  unfold SeqAt.shaped
  rw [PyData.canLay0, can_nats, Bool.true_and]
  have := dep_nats l
  refine decide_eq_true ?_
  simp only [PyData.depth]
  omega
theorem dpN_int {H : Hp} (l : List Nat) : DpAll K H (nV l) (l.map fun n => PyData.int (n : Nat)) := dpN l
theorem dpRows_get {H : Hp} {vs : List V} {rows : List (List Nat)} {i : Nat} {v : V} (h : DpAll K H vs (rows.map tupN)) (e : vs[i]? = some v) : ∃ row t, rows[i]? = some row ∧ v = .ref t ∧ SqT K H t (nV row) := by
  obtain ⟨d, hd, dv⟩ := Gx.dpAll_get h e
  rw [List.getElem?_map] at hd
  obtain ⟨row, hr, rfl⟩ := Option.map_eq_some_iff.mp hd
  unfold tupN at dv
  cases dv with
  | @tup t xs _ hs ha =>
    refine ⟨row, t, hr, rfl, ?_⟩
    have : ∀ (l : List Nat) (xs : List V), DpAll K H xs (l.map fun n => PyData.int (n : Nat)) → xs = nV l := by
      intro l
      induction l with
      | nil => intro xs h; cases h; rfl
      | cons n l ih =>
        intro xs h
        cases h with
        | cons h1 h2 =>
          cases h1
          rw [ih _ h2]
          rfl
    rw [this row xs ha] at hs
    exact hs
theorem told_inv {H : Hp} {t : Addr} {ru : List Nat} {rows : List (List Nat)} (h : Dp K H (.ref t) (toldD ru rows)) : ∃ tr tt vs, SqT K H t [.ref tr, .ref tt] ∧ SqT K H tr (nV ru) ∧ SqT K H tt vs ∧ DpAll K H vs (rows.map tupN) := by
  unfold toldD at h
  cases h with
  | tup hs ha =>
    cases ha with
    | cons h1 ha =>
      cases ha with
      | cons h2 ha =>
        cases ha
        have h1' := dpRows_get (rows := [ru]) (i := 0) (.cons h1 .nil) rfl
        obtain ⟨row, tr, hr, rfl, hq⟩ := h1'
        cases hr
        cases h2 with
        | @tup tt vs _ hs2 ha2 => exact ⟨tr, tt, vs, hs, hq, hs2, ha2⟩
theorem flat_len (g : Nat → List Nat) (c : Nat) (h : ∀ n, (g n).length ≤ c) : ∀ i, (((List.range i).map g).flatten).length ≤ c * i
  | 0 => by simp
  | i + 1 => by
    have := flat_len g c h i
    have h2 := h i
    rw [List.range_succ, List.map_append, List.flatten_append, List.length_append, List.map_cons, List.map_nil, List.flatten_cons, List.flatten_nil, List.append_nil, Nat.mul_add]
    omega
def sp_stays (K : PySem.W.Frag) : Sp := fun vs H Q _ => ∃ (a t : Addr) (its : List (Option Int)) (f : Bool) (ru : List Nat) (rows : List (List Nat)), vs = [.ref a, .bl f, .ref t] ∧ SqT K H a (its.map oV) ∧ its.length ≤ 1000 ∧ Told (rkI its f) (osI its) ru rows ∧ Dp K H (.ref t) (toldD ru rows) ∧ ∀ H', Same H H' → Q (.bl true) H'
set_option maxHeartbeats 4000000 in
theorem G__law_stays (T : Txt K mg w) : FnOk P w K mg base CX0 3 T.f__law_stays T.fd__law_stays ["items", "down", "told"] (sp_stays K) := by
  have G__law_places := G__law_places (P := P) (w := w) (base := base) T
  have G__law_ascends := G__law_ascends (P := P) (w := w) (base := base) T
  have G__law_longest := G__law_longest (P := P) (w := w) (base := base) T
  refine T.F__law_stays.ok sc__law_stays (fun vs H Q E h => ?_) (fun cdv A outer s H vs Q E hr h => ?_)
  · obtain ⟨a, t, its, f, ru, rows, rfl, _⟩ := h
    rfl
  · obtain ⟨a, t, its, f, ru, rows, rfl, hI, hil, ⟨pi, bf, N, P, hrul, hrum, hrup, rfl⟩, hD, q⟩ := h
    have hosl := osI_len its
    have hrl : ru.length ≤ 1000 := by
      have nd : ru.Nodup := hrup.imp fun h => by omega
      have := nd.length_le_of_subset (l₂ := osI its) (fun x hx => hrum x hx)
      omega
    have hosasc := P.asc
    refine ⟨_, ((pss_cons (ps_set (i := 3) sc__law_stays.nd rfl (Or.inr rfl) pe_int)
  (C8.pss_cut (ps_if (pt_val (pv 1))
  (pss_one (ps_set (i := 3) sc__law_stays.nd rfl (Or.inr rfl) (pe_op op_sub pe_int pe_int)))
  pss_nil)
  (pss_cons (ps_setLc (i := 4) (own := [("k", 5)]) (g := (gName 5))  rfl sc__law_stays.nd rfl rfl (sw_true rfl rfl rfl (by decide +kernel)) (pi_range1 rfl T.z_range (pa_cons (pe_callB Gx.cr_lenQ (by rfl) T.z_len bt_len (pa_cons (pv 0) pa_nil)) pa_nil)) (blkOk_by (N := ["items", "down", "told", "sign", "taken", "k", "run", "members", "row"]) (sc := defScope s__law_stays) (by decide +kernel)) (fun _ _ _ _ _ => (pg_name (i := 5) sc__law_stays.nd rfl (Or.inl rfl))) (fun _ _ _ _ _ => (pts_one (pt_cmpR Gx.op_notNG (pe_ix (r := rIxT K) ix_tup (pv 0) (pv 5) (fun _ _ => rfl)) pe_non (nomark _)))) (fun _ _ _ _ _ => (pv 5)))
  (pss_cons (ps_if (PW.pt (pw_or (pt_not (pt_val (pe_callB call_isi (by rfl) T.z_isinstance bt_isinstance (pa_cons (pv 2) (pa_cons (pe_bltn (v := .ty "tuple") rfl T.z_tuple bt_tuple rfl) pa_nil))))) (pw_or1 (pt_cmpR op_ne (pe_callB Gx.cr_lenQ (by rfl) T.z_len bt_len (pa_cons (pv 2) pa_nil)) pe_int (nomark _)))))
  (pss_one (ps_ret pe_bl))
  pss_nil)
  (pss_cons (ps_if (PW.pt (pw_or (pt_not (pt_val (pe_callB call_isi (by rfl) T.z_isinstance bt_isinstance (pa_cons (pe_ix ix_tup (pv 2) pe_int (fun _ _ => rfl)) (pa_cons (pe_bltn (v := .ty "tuple") rfl T.z_tuple bt_tuple rfl) pa_nil))))) (pw_or1 (pt_not (pt_val (pe_call G__law_places (hr.mono (by first | decide | omega)) (by rfl) T.g__law_places T.F__law_places.kp T.b__law_places .nil pass0 (pa_cons (pe_ix ix_tup (pv 2) pe_int (fun _ _ => rfl)) (pa_cons (pv 4) pa_nil))))))))
  (pss_one (ps_ret pe_bl))
  pss_nil)
  (pss_cons (ps_setLc (i := 6) (own := [("k", 5)]) (g := (gName 5)) (tt := tYes) rfl sc__law_stays.nd rfl rfl (sw_true rfl rfl rfl (by decide +kernel)) (pi_tup (pe_ix ix_tup (pv 2) pe_int (fun _ _ => rfl))) (blkOk_by (N := ["items", "down", "told", "sign", "taken", "k", "run", "members", "row"]) (sc := defScope s__law_stays) (by decide +kernel)) (fun _ _ _ _ _ => (pg_name (i := 5) sc__law_stays.nd rfl (Or.inl rfl))) (fun _ _ _ _ _ => pts_nil) (fun _ _ _ _ _ => (pe_op op_mul (pv 3) (pe_ix (r := rIxT K) ix_tup (pv 0) (pv 5) (fun _ _ => rfl)))))
  (pss_cons (ps_if (PW.pt (pw_or (pt_not (pt_val (pe_call G__law_ascends (hr.mono (by first | decide | omega)) (by rfl) T.g__law_ascends T.F__law_ascends.kp T.b__law_ascends .nil pass0 (pa_cons (pv 6) pa_nil)))) (pw_or1 (pt_cmpR op_ne (pe_callB Gx.cr_lenQ (by rfl) T.z_len bt_len (pa_cons (pv 6) pa_nil)) (pe_call G__law_longest (hr.mono (by first | decide | omega)) (by rfl) T.g__law_longest T.F__law_longest.kp T.b__law_longest .nil pass0 (pa_cons (pe_lc (own := [("k", 5)]) (g := (gName 5)) (tt := tYes) (by rfl) sc__law_stays.nd (pi_list (pv 4)) (blkOk_by (N := ["items", "down", "told", "sign", "taken", "k", "run", "members", "row"]) (sc := defScope s__law_stays) (by decide +kernel)) (fun _ _ _ _ _ => (pg_name (i := 5) sc__law_stays.nd rfl (Or.inl rfl))) (fun _ _ _ _ _ => pts_nil) (fun _ _ _ _ _ => (pe_op op_mul (pv 3) (pe_ix (r := rIxT K) ix_tup (pv 0) (pv 5) (fun _ _ => rfl))))) pa_nil)) (nomark _)))))
  (pss_one (ps_ret pe_bl))
  pss_nil)
  (pss_cons (ps_set (i := 7) sc__law_stays.nd rfl (Or.inl rfl) (pe_lst pa_nil))
  (pss_cons (ps_for PassesOwn.never rfl (pi_tup (pe_ix ix_tup (pv 2) pe_int (fun _ _ => rfl))) (pg_name (i := 8) sc__law_stays.nd rfl (Or.inl rfl))
  (pss_cons (ps_if (PW.pt (pw_or (pt_not (pt_val (pe_call G__law_places (hr.mono (by first | decide | omega)) (by rfl) T.g__law_places T.F__law_places.kp T.b__law_places .nil pass0 (pa_cons (pv 8) (pa_cons (pv 4) pa_nil))))) (pw_or1 (pt_cmpR op_eq (pe_callB Gx.cr_lenQ (by rfl) T.z_len bt_len (pa_cons (pv 8) pa_nil)) pe_int (nomark _)))))
  (pss_one (ps_ret pe_bl))
  pss_nil)
  (pss_cons (ps_if (pt_not (pt_val (pe_call G__law_ascends (hr.mono (by first | decide | omega)) (by rfl) T.g__law_ascends T.F__law_ascends.kp T.b__law_ascends .nil pass0 (pa_cons (pe_lc (own := [("k", 5)]) (g := (gName 5)) (tt := tYes) (by rfl) sc__law_stays.nd (pi_tup (pv 8)) (blkOk_by (N := ["items", "down", "told", "sign", "taken", "k", "run", "members", "row"]) (sc := defScope s__law_stays) (by decide +kernel)) (fun _ _ _ _ _ => (pg_name (i := 5) sc__law_stays.nd rfl (Or.inl rfl))) (fun _ _ _ _ _ => pts_nil) (fun _ _ _ _ _ => (pe_op op_sub pe_int (pe_op op_mul (pv 3) (pe_ix (r := rIxT K) ix_tup (pv 0) (pv 5) (fun _ _ => rfl)))))) pa_nil))))
  (pss_one (ps_ret pe_bl))
  pss_nil)
  (pss_one (ps_set (i := 7) sc__law_stays.nd rfl (Or.inl rfl) (pe_op op_cat (pv 7) (pe_callTy call_list_of (by rfl) T.z_list bt_list (pa_cons (pv 8) pa_nil))))))))
  (pss_cons (ps_if (pt_not (pt_val (pe_call G__law_ascends (hr.mono (by first | decide | omega)) (by rfl) T.g__law_ascends T.F__law_ascends.kp T.b__law_ascends .nil pass0 (pa_cons (pe_lc (own := [("row", 8)]) (g := (gName 8)) (tt := tYes) (by rfl) sc__law_stays.nd (pi_tup (pe_ix ix_tup (pv 2) pe_int (fun _ _ => rfl))) (blkOk_by (N := ["items", "down", "told", "sign", "taken", "k", "run", "members", "row"]) (sc := defScope s__law_stays) (by decide +kernel)) (fun _ _ _ _ _ => (pg_name (i := 8) sc__law_stays.nd rfl (Or.inl rfl))) (fun _ _ _ _ _ => pts_nil) (fun _ _ _ _ _ => (pe_ix (r := rIxT K) ix_tup (pv 8) pe_int (fun _ _ => rfl)))) pa_nil))))
  (pss_one (ps_ret pe_bl))
  pss_nil)
  (pss_one (ps_ret (pe_and (pe_cmpR op_eq (pe_callB Gx.cr_lenQ (by rfl) T.z_len bt_len (pa_cons (pe_ix ix_tup (pv 2) pe_int (fun _ _ => rfl)) pa_nil)) (pe_callB Gx.cr_lenQ (by rfl) T.z_len bt_len (pa_cons (pv 6) pa_nil)) (nomark _)) (pe_one (pe_cmpR (op_eqD hr.units) (pe_callB cr_sortedI (by rfl) T.z_sorted bt_sorted (pa_cons (pv 7) pa_nil)) (pv 4) (nomark _))))))))))))))))), ?_⟩
    clear G__law_places G__law_ascends G__law_longest
    rw [st__law_stays]
    try dsimp only [cxOf]
    walk_at "g"
    refine ⟨fun σ H1 => H1 = H ∧ σ = [some (.ref a), some (.bl f), some (.ref t), some (.int (if f then -1 else 1)), none, none, none, none, none], ?_, ?_⟩
    · walk_at "g"
      refine Gx.iteB (fun hf => ?_) (fun hf => ?_)
      · subst hf
        walk_at "g"
        exact ⟨rfl, rfl⟩
      · subst hf
        walk_at "g"
        exact ⟨rfl, rfl⟩
    rintro σ H1 ⟨rfl, rfl⟩
    walk_at "g"
    refine ⟨_, rfl, by omega, by omega, fun D nD => lc_range (lo := 0) (n := (its.length : Int).toNat) (fun i H' => Same H1 H' ∧ H' D = some (.lst (nV (osI (its.take i))))) ⟨Gx.Same.put (Same.refl H1) nD, upd_same⟩ ?_ ?_⟩
    · rintro i H2 hi ⟨s2, e2⟩
      have hi' : i < its.length := by omega
      have ho := List.getElem?_eq_getElem hi'
      have et := osI_take ho
      have hol := osI_len (its.take i)
      rw [List.length_take] at hol
      generalize its[i] = o at ho et
      walk_at "g"
      refine ⟨rfl, ?_⟩
      walk_at "g"
      refine Gx.ixT (s2.seqT hI) (v := oV o) (Gx.atI_of (k := i) (by omega) (by rw [List.getElem?_map, ho]; rfl)) ?_
      cases o with
      | none =>
        rw [show oV none = V.non from rfl]
        walk_at "g"
        refine ⟨s2, ?_⟩
        rw [e2, et]
        simp
      | some v =>
        rw [show oV (some v) = V.int v from rfl]
        walk_at "g"
        refine ⟨_, e2, Gx.lineL (by rw [nV_len]; omega), Gx.Same.put s2 nD, ?_⟩
        rw [upd_same, et, nV_app]
        simp [nV]
    · rintro H2 ⟨s2, e2⟩
      rw [Int.toNat_natCast, List.take_length] at e2
      have hO := SqL.of (K := K) e2
      replace hI := s2.seqT hI
      replace hD := Gx.dp_same s2 _ _ hD
      replace q := fun H' (s : Same H2 H') => q H' (s2.trans s)
      clear s2 e2 nD
      obtain ⟨tr, tt, vs, ht, htr, htt, hvs⟩ := told_inv hD
      walk_at "g"
      refine Gx.iteDn (fun h => (h rfl).elim) (fun _ => ?_)
      walk_at "g"
      refine ⟨tr, D, ru, osI its, rfl, htr, hO, hrl, hrum, hrup.imp fun h => h.1, fun H3 s3 => ?_⟩
      replace hI := s3.seqT hI
      replace hO := s3.seq hO
      replace ht := s3.seqT ht
      replace htr := s3.seqT htr
      replace htt := s3.seqT htt
      replace hvs := Gx.dpAll_same s3 _ _ hvs
      replace q := fun H' (s : Same H3 H') => q H' (s3.trans s)
      clear s3 hD
      have hmul : ∀ v : Int, (if f then (-1 : Int) else 1) * v = (if f then -v else v) := fun v => by cases f <;> simp
      have hcm : ∀ v : Int, CMul (if f then (-1 : Int) else 1) v := fun v => Gx.cmulL (by cases f <;> simp) (by cases f <;> simp)
      walk_at "g"
      refine ⟨⟨_, htr⟩, fun D2 nD2 => lc_tup (K := K) (a := tr) (xs := nV ru) (fun i H' => Same H3 H' ∧ H' D2 = some (.lst (((ru.take i).map (rkI its f)).map V.int))) ⟨Gx.Same.put (Same.refl H3) nD2, upd_same⟩ (fun i H' _ z => z.1.seqT htr) ?_ ?_⟩
      · rintro i x H4 hi ⟨s4, e4⟩
        rw [nV, List.getElem?_map] at hi
        obtain ⟨n, hn, rfl⟩ := Option.map_eq_some_iff.mp hi
        obtain ⟨v, hv, ev⟩ := rkI_get (f := f) (hrum n (List.mem_of_getElem? hn))
        walk_at "g"
        refine ⟨rfl, ?_⟩
        walk_at "g"
        refine Gx.ixT (s4.seqT hI) (v := .int v) (Gx.atI_of (k := n) rfl (by rw [List.getElem?_map, hv]; rfl)) ?_
        refine Gx.i1 (hcm v) ?_
        rw [hmul v, ← ev]
        refine ⟨_, e4, Gx.lineL (by rw [List.length_map, List.length_map, List.length_take]; omega), Gx.Same.put s4 nD2, ?_⟩
        rw [upd_same, List.take_add_one, hn, Option.toList_some, List.map_append, List.map_append]
        rfl
      rintro H4 ⟨s4, e4⟩
      rw [nV_len, List.take_length] at e4
      have hRun := SqL.of (K := K) e4
      replace hI := s4.seqT hI
      replace hO := s4.seq hO
      replace ht := s4.seqT ht
      replace htt := s4.seqT htt
      replace hvs := Gx.dpAll_same s4 _ _ hvs
      replace q := fun H' (s : Same H4 H') => q H' (s4.trans s)
      clear s4 e4 nD2 htr
      walk_at "g"
      refine ⟨D2, ru.map (rkI its f), rfl, .inl hRun, by rw [List.length_map]; exact hrl, List.pairwise_map.mpr (hrup.imp fun h => h.2), fun H5 s5 => ?_⟩
      replace hI := s5.seqT hI
      replace hO := s5.seq hO
      replace ht := s5.seqT ht
      replace htt := s5.seqT htt
      replace hRun := s5.seq hRun
      replace hvs := Gx.dpAll_same s5 _ _ hvs
      replace q := fun H' (s : Same H5 H') => q H' (s5.trans s)
      clear s5
      walk_at "g"
      refine ⟨⟨_, hO⟩, fun D3 nD3 => lc_list (K := K) (a := D) (xs := nV (osI its)) (fun i H' => Same H5 H' ∧ H' D3 = some (.lst ((((osI its).take i).map (rkI its f)).map V.int))) ⟨Gx.Same.put (Same.refl H5) nD3, upd_same⟩ (fun i H' _ z => z.1.seq hO) ?_ ?_⟩
      · rintro i x H6 hi ⟨s6, e6⟩
        rw [nV, List.getElem?_map] at hi
        obtain ⟨n, hn, rfl⟩ := Option.map_eq_some_iff.mp hi
        obtain ⟨v, hv, ev⟩ := rkI_get (f := f) (List.mem_of_getElem? hn)
        walk_at "g"
        refine ⟨rfl, ?_⟩
        walk_at "g"
        refine Gx.ixT (s6.seqT hI) (v := .int v) (Gx.atI_of (k := n) rfl (by rw [List.getElem?_map, hv]; rfl)) ?_
        refine Gx.i1 (hcm v) ?_
        rw [hmul v, ← ev]
        refine ⟨_, e6, Gx.lineL (by rw [List.length_map, List.length_map, List.length_take]; omega), Gx.Same.put s6 nD3, ?_⟩
        rw [upd_same, List.take_add_one, hn, Option.toList_some, List.map_append, List.map_append]
        rfl
      rintro H6 ⟨s6, e6⟩
      rw [nV_len, List.take_length] at e6
      have hTk := SqL.of (K := K) e6
      replace hI := s6.seqT hI
      replace hO := s6.seq hO
      replace ht := s6.seqT ht
      replace htt := s6.seqT htt
      replace hRun := s6.seq hRun
      replace hvs := Gx.dpAll_same s6 _ _ hvs
      replace q := fun H' (s : Same H6 H') => q H' (s6.trans s)
      clear s6 e6 nD3
      walk_at "g"
      refine ⟨D3, _, _, N, rfl, hTk, by rw [List.length_map]; omega, P.lng, fun H7 s7 => ?_⟩
      replace hI := s7.seqT hI
      replace hO := s7.seq hO
      replace ht := s7.seqT ht
      replace htt := s7.seqT htt
      replace hRun := s7.seq hRun
      replace hvs := Gx.dpAll_same s7 _ _ hvs
      replace q := fun H' (s : Same H7 H') => q H' (s7.trans s)
      clear s7 hTk
      walk_at "g"
      refine Gx.iteDn (fun h => (h (by rw [List.length_map, hrul])).elim) (fun _ => ?_)
      walk_at "g"
      refine Gx.newL (by simp) (fun M H8 E8 => ?_)
      replace hI := E8.same.seqT hI
      replace hO := E8.same.seq hO
      replace ht := E8.same.seqT ht
      replace htt := E8.same.seqT htt
      replace hRun := E8.same.seq hRun
      replace hvs := Gx.dpAll_same E8.same _ _ hvs
      replace q := fun H' (s : Same H8 H') => q H' (E8.same.trans s)
      have eM := E8.at_
      clear E8
      have hvl := Gx.dpAll_len hvs
      rw [List.length_map, List.length_map, List.length_range] at hvl
      have hNl : N ≤ 1000 := by omega
      walk_at "g"
      refine ⟨⟨_, htt⟩, for_tup (K := K) (a := tt) (xs := vs) (fun i σ H9 => ∃ (M : Addr) (y1 y2 : Option V), Same H8 H9 ∧ H9 M = some (.lst (nV (((List.range i).map (rowOf (osI its) pi)).flatten))) ∧ σ = [some (.ref a), some (.bl f), some (.ref t), some (.int (if f then -1 else 1)), some (.ref D), y1, some (.ref D2), some (.ref M), y2])
        ⟨M, none, none, Same.refl H8, eM, rfl⟩ (fun i σ H9 _ ⟨_, _, _, e, _⟩ => e.seqT htt) ?_ ?_⟩
      · rintro i x σ H9 hi ⟨M', y1, y2, s9, e9, rfl⟩
        obtain ⟨row, tw, hrw, rfl, hq⟩ := dpRows_get (Gx.dpAll_same s9 _ _ hvs) hi
        rw [List.getElem?_map] at hrw
        obtain ⟨n, hn, rfl⟩ := Option.map_eq_some_iff.mp hrw
        have hin := (List.getElem?_eq_some_iff.mp hn).1
        rw [List.length_range] at hin
        rw [List.getElem?_range hin] at hn
        obtain rfl := Option.some.inj hn
        have hI9 := s9.seqT hI
        have hO9 := s9.seq hO
        have hwl := rowOf_len (osI its) pi i
        have hwa := rowOf_asc P.asc pi i
        have hwm : ∀ x ∈ rowOf (osI its) pi i, x ∈ osI its := fun x hx => (mem_rowOf.mp hx).1
        obtain ⟨hd, tl, ehd⟩ := P.heads hin
        have hwd : (rowOf (osI its) pi i).Pairwise (fun a b => 0 - rkI its f a < 0 - rkI its f b) := by
          have hinj := P.inj
          refine hwa.imp_of_mem fun {x y} hx hy l => ?_
          obtain ⟨x1, x2⟩ := mem_rowOf.mp hx
          obtain ⟨y1, y2⟩ := mem_rowOf.mp hy
          have h1 := P.same x1 y1 (x2.trans y2.symm) (Nat.le_of_lt l)
          have h2 : rkI its f x ≠ rkI its f y := fun e => by have := hinj x x1 y y1 e; omega
          omega
        walk_at "g"
        refine ⟨tw, D, _, _, rfl, hq, hO9, by omega, hwm, hwa, fun HA sA => ?_⟩
        replace hI9 := sA.seqT hI9
        replace hq := sA.seqT hq
        have eA := sA _ _ e9
        have s8A := s9.trans sA
        walk_at "g"
        refine Gx.iteD (fun h => ?_) (fun _ => ?_)
        · exfalso
          rw [ehd, List.length_cons] at h
          omega
        walk_at "g"
        refine ⟨⟨_, hq⟩, fun D4 nD4 => lc_tup (K := K) (a := tw) (xs := nV (rowOf (osI its) pi i)) (fun j H' => Same HA H' ∧ H' D4 = some (.lst ((((rowOf (osI its) pi i).take j).map fun x => 0 - rkI its f x).map V.int))) ⟨Gx.Same.put (Same.refl HA) nD4, upd_same⟩ (fun j H' _ z => z.1.seqT hq) ?_ ?_⟩
        · rintro j x HB hj ⟨sB, eB⟩
          rw [nV, List.getElem?_map] at hj
          obtain ⟨n, hn, rfl⟩ := Option.map_eq_some_iff.mp hj
          obtain ⟨v, hv, ev⟩ := rkI_get (f := f) (hwm n (List.mem_of_getElem? hn))
          walk_at "g"
          refine ⟨rfl, ?_⟩
          walk_at "g"
          refine Gx.ixT (sB.seqT hI9) (v := .int v) (Gx.atI_of (k := n) rfl (by rw [List.getElem?_map, hv]; rfl)) ?_
          refine Gx.i1 (hcm v) ?_
          rw [hmul v, ← ev]
          walk_at "g"
          refine ⟨_, eB, Gx.lineL (by rw [List.length_map, List.length_map, List.length_take]; omega), Gx.Same.put sB nD4, ?_⟩
          rw [upd_same, List.take_add_one, hn, Option.toList_some, List.map_append, List.map_append]
          rfl
        rintro HB ⟨sB, eB⟩
        rw [nV_len, List.take_length] at eB
        walk_at "g"
        refine ⟨D4, _, rfl, .inl (SqL.of eB), by rw [List.length_map]; omega, List.pairwise_map.mpr hwd, fun HC sC => ?_⟩
        have sAC := sB.trans sC
        have eC := sAC _ _ eA
        have hqC := sAC.seqT hq
        walk_at "g"
        refine ⟨tw, _, rfl, .inr hqC, fun L nL => ?_⟩
        have sL : Same HC (upd HC L (.lst (nV (rowOf (osI its) pi i)))) := Gx.Same.put (Same.refl HC) nL
        have eL : upd HC L (.lst (nV (rowOf (osI its) pi i))) L = some (.lst (nV (rowOf (osI its) pi i))) := upd_same
        have eML := sL _ _ eC
        generalize upd HC L (.lst (nV (rowOf (osI its) pi i))) = HD at *
        walk_at "g"
        have hflat : (((List.range i).map (rowOf (osI its) pi)).flatten).length ≤ 1000 * i := by
          exact flat_len _ 1000 (fun n => by have := rowOf_len (osI its) pi n; omega) i
        refine Gx.cat1 eML eL (by rw [nV_len, nV_len]; omega) (fun O HE EE => ?_)
        walk_at "g"
        refine ⟨O, _, _, s8A.trans (sAC.trans (sL.trans EE.same)), ?_, rfl⟩
        rw [EE.at_, List.range_succ, List.map_append, List.flatten_append, nV_app]
        simp
      · rintro σ H9 ⟨M', y1, y2, s9, e9, rfl⟩
        rw [hvl] at e9
        have htt9 := s9.seqT htt
        have ht9 := s9.seqT ht
        walk_at "g"
        refine ⟨⟨_, htt9⟩, fun D4 nD4 => lc_tup (K := K) (a := tt) (xs := vs) (fun j H' => Same H9 H' ∧ H' D4 = some (.lst (nV ((List.range j).map (hdN (osI its) pi))))) ⟨Gx.Same.put (Same.refl H9) nD4, upd_same⟩ (fun j H' _ z => z.1.seqT htt9) ?_ ?_⟩
        · rintro i x HB hi ⟨sB, eB⟩
          obtain ⟨row, tw, hrw, rfl, hq⟩ := dpRows_get (Gx.dpAll_same (s9.trans sB) _ _ hvs) hi
          rw [List.getElem?_map] at hrw
          obtain ⟨n, hn, rfl⟩ := Option.map_eq_some_iff.mp hrw
          have hin := (List.getElem?_eq_some_iff.mp hn).1
          rw [List.length_range] at hin
          rw [List.getElem?_range hin] at hn
          obtain rfl := Option.some.inj hn
          obtain ⟨hd, tl, ehd⟩ := P.heads hin
          walk_at "g"
          refine ⟨rfl, ?_⟩
          walk_at "g"
          refine Gx.ixT hq (v := .int (hdN (osI its) pi i : Nat)) (Gx.atI_of (k := 0) rfl (by unfold hdN; rw [ehd]; rfl)) ?_
          refine ⟨_, eB, Gx.lineL (by rw [nV_len, List.length_map, List.length_range]; omega), Gx.Same.put sB nD4, ?_⟩
          rw [upd_same, List.range_succ, List.map_append, nV_app]
          rfl
        rintro HB ⟨sB, eB⟩
        rw [hvl] at eB
        walk_at "g"
        refine ⟨D4, ((List.range N).map (hdN (osI its) pi)).map fun n : Nat => (n : Int), rfl, .inl (by rw [← nV_ints]; exact SqL.of eB), by rw [List.length_map, List.length_map, List.length_range]; exact hNl, asc_ints P.hdasc, fun HC sC => ?_⟩
        have s9C := sB.trans sC
        have htC := s9C.seqT ht9
        have httC := s9C.seqT htt9
        have hRunC := (s9.trans s9C).seq hRun
        have hOC := (s9.trans s9C).seq hO
        have hMC := SqL.of (K := K) (s9C _ _ e9)
        walk_at "g"
        rw [decide_eq_true (show (vs.length : Int) = ((ru.map (rkI its f)).length : Nat) by rw [List.length_map]; omega)]
        walk_at "g"
        refine ⟨M', _, rfl, by rw [← nV_ints]; exact hMC, fun ns' p hp hpw np => ?_⟩
        have ens : ns' = (osI its).map fun n : Nat => (n : Int) := by
          refine List.Perm.eq_of_pairwise (fun x y _ _ h1 h2 => Int.le_antisymm h1 h2) hpw ?_ (hp.trans (P.perm.map _))
          exact (asc_ints hosasc).imp fun h => Int.le_of_lt h
        subst ens
        have sp : Same HC (upd HC p (.lst (((osI its).map fun n : Nat => (n : Int)).map V.int))) := Gx.Same.put (Same.refl HC) np
        have ep : upd HC p (.lst (((osI its).map fun n : Nat => (n : Int)).map V.int)) p = some (.lst (nV (osI its))) := by rw [upd_same, nV_ints]
        generalize upd HC p (.lst (((osI its).map fun n : Nat => (n : Int)).map V.int)) = HD at *
        walk_at "g"
        refine ⟨.list ((osI its).map fun n => PyData.int (n : Nat)), .list ((osI its).map fun n => PyData.int (n : Nat)), .lst (SqL.of ep) (dpN _), .lst (sp.seq hOC) (dpN _), shaped_nats _, shaped_nats _, ?_⟩
        rw [show PyData.eqv (.list ((osI its).map fun n => PyData.int (n : Nat))) (.list ((osI its).map fun n => PyData.int (n : Nat))) = true by rw [PyData.eqv]; exact eqv_nats _]
        exact q _ ((s9.trans s9C).trans sp)
end
end K39
namespace K39
open PySem PySem.Spec PyProof.Rows L2
local macro_rules | `(tactic| walk_at "con") => `(tactic| first | fail)
section
variable {P : Program} {w : World} {K : PySem.W.Frag} {mg : Str → Option Value} {base : Heap}
theorem callSD {sp : Sp} {dvs : List V} {E : L2.St → XK} {t : TA} {σ : L2.St} {H : Hp} {Q : VK} (h : t σ H fun vs H1 => sp (vs ++ dvs) H1 Q (E σ)) : tCallSD sp dvs E t σ H Q := h
theorem ecB (T : Txt K mg w) : ExcC K T.a_BadAlignment := ⟨T.ecg, T.eck, T.bP_BadAlignment, T.ecd, T.eca, T.hn_, T.htk_, T.ecm⟩
def sp_refused (K : PySem.W.Frag) : Sp := fun vs H Q _ => ∃ (a : Addr) (its : List (Option Int)) (wy : Int), vs = [.ref a, .int wy] ∧ SqT K H a (its.map oV) ∧ its.length ≤ 1000 ∧ ¬ Okay its ∧ ∀ H', Same H H' → Q (.bl true) H'
theorem G__law_refused (T : Txt K mg w) : FnOk P w K mg base CX0 3 T.f__law_refused T.fd__law_refused ["items", "way"] (sp_refused K) := by
  have G_staying := G_staying (P := P) (w := w) (base := base) T
  have ec := ecB T
  refine T.F__law_refused.ok sc__law_refused (fun vs H Q E h => ?_) (fun cdv A outer s H vs Q E hr h => ?_)
  · obtain ⟨a, its, wy, rfl, _⟩ := h
    rfl
  · obtain ⟨a, its, wy, rfl, hI, hil, no, q⟩ := h
    have hr2 : Room 2 _ := hr.mono (by decide)
    refine ⟨_, ((C8.pss_cut (ps_try_as (i := 2) (tb := fun W => tIfS (tTest (tOp rEq (tVar 1) (tC (.int 0)))) (tDrop (tCallSD (sp_staying K T.a_BadAlignment) [.bl false] (WE W) (tCons (tVar 0) tNil))) (tDrop (Gx.tCallNS 1 (List.length (["falling"] : List Str)) (sp_staying K T.a_BadAlignment) (fun vs zs => vs ++ zs) (WE W) (tCons (tVar 0) tNil) (tCons (tOp rEq (tVar 1) (tC (.int 2))) tNil)))) (ts := fun a cls d => tRet (tAndV (tCB (Gx.rIsE' K T.a_BadAlignment a cls d) (tCons (tVar 2) (tCons (tC (.ref T.a_BadAlignment)) tNil))) (tCB (Gx.rIsE' K T.a_BadAlignment a cls d) (tCons (tVar 2) (tCons (tC (.ty "ValueError")) tNil))))) (Wout := fun _ _ _ _ => False) rfl rfl sc__law_refused.nd rfl rfl ⟨rfl, by decide, .inl T.g_LensError⟩ takes0 (fun W pn xe tk _ => pss_one (ps_if (pt_cmpR op_eq (pv 1) pe_int (nomark _)) (pss_one (ps_expr (by exact (pe_callSD G_staying hr2 rfl T.g_staying T.F_staying.kp T.b_staying T.dv_staying (fun σ => passAt tk σ) (by exact (pa_cons (pv 0) pa_nil)))))) (pss_one (ps_expr (by exact (Gx.pe_callNS (n := 1) (ks := ["falling"]) G_staying hr2 rfl T.g_staying T.F_staying.kp T.bk_staying (fun σ => passAt tk σ) (by exact (pa_cons (pv 0) pa_nil)) (by exact (pk_cons (pe_cmpR op_eq (pv 1) pe_int (nomark _)) pk_nil)))))))) (fun a oe cls d pn hz hf => pss_one (ps_ret (by exact (pe_and (pe_callB (Gx.cr_isE ec hz hf) (by rfl) T.z_isinstance bt_isinstance (by exact (pa_cons (pv 2) (pa_cons (pe_glob (v := .ref T.a_BadAlignment) rfl T.g_BadAlignment rfl) pa_nil)))) (pe_one (pe_callB (Gx.cr_isE ec hz hf) (by rfl) T.z_isinstance bt_isinstance (by exact (pa_cons (pv 2) (pa_cons (pe_bltn (v := .ty "ValueError") rfl T.z_ValueError bt_ValueError rfl) pa_nil))))))))))
  (pss_one (ps_ret pe_bl)))), ?_⟩
    rw [st__law_refused]
    try dsimp only [cxOf]
    walk_at "g"
    refine ⟨fun _ _ => False, ?_, fun σ' H' z => z.elim⟩
    show tIfS _ _ _ _ _ _
    have fin : ∀ H', Same H H' → ∀ D : Ends, D.rt = Q → wAs K (.ref T.a_LensError) 2 (fun a cls d => tRet (tAndV (tCB (Gx.rIsE' K T.a_BadAlignment a cls d) (tCons (tVar 2) (tCons (tC (.ref T.a_BadAlignment)) tNil))) (tCB (Gx.rIsE' K T.a_BadAlignment a cls d) (tCons (tVar 2) (tCons (tC (.ty "ValueError")) tNil))))) (fun _ _ _ _ => False) D (.ref T.a_BadAlignment) none [some (.ref a), some (.int wy), none] H' := by
      intro H' s' D hD
      refine ⟨true, T.em_bl, fun _ x na => ?_, fun z => nomatch z⟩
      walk_at "g"
      refine ⟨rfl, rfl, V.ref T.a_BadAlignment, .ref T.a_BadAlignment, true, rfl, fun u r => r, by simp [PySem.W.kitOne], ?_⟩
      walk_at "g"
      refine ⟨rfl, rfl, V.ty "ValueError", .type "ValueError", true, rfl, fun u r => r, T.kv_bs, ?_⟩
      rw [hD]
      exact q H' s'
    walk_at "g"
    refine Gx.iteD (fun hb => ?_) (fun hb => ?_)
    · walk_at "g"
      refine callSD ?_
      walk_at "g"
      exact ⟨a, its, false, rfl, hI, hil, fun z => (no z).elim, fun _ H' s' => fin H' s' _ rfl⟩
    · walk_at "g"
      refine ⟨rfl, rfl, ?_⟩
      exact ⟨a, its, _, rfl, hI, hil, fun z => (no z).elim, fun _ H' s' => fin H' s' _ rfl⟩
def sp_answers (K : PySem.W.Frag) : Sp := fun vs H Q _ => ∃ (a : Addr) (its : List (Option Int)), vs = [.ref a] ∧ SqT K H a (its.map oV) ∧ its.length ≤ 1000 ∧ ∀ H', Same H H' → Q (.bl true) H'
theorem G__law_answers (T : Txt K mg w) : FnOk P w K mg base CX0 4 T.f__law_answers T.fd__law_answers ["items"] (sp_answers K) := by
  have G_staying := G_staying (P := P) (w := w) (base := base) T
  have G__law_refused := G__law_refused (P := P) (w := w) (base := base) T
  have G__law_valid := G__law_valid (P := P) (w := w) (base := base) T
  have G__law_stays := G__law_stays (P := P) (w := w) (base := base) T
  refine T.F__law_answers.ok sc__law_answers (fun vs H Q E h => ?_) (fun cdv A outer s H vs Q E hr h => ?_)
  · obtain ⟨a, its, rfl, _⟩ := h
    rfl
  · obtain ⟨a, its, rfl, hI, hil, q⟩ := h
    refine ⟨_, ((pss_cons (ps_if (pt_not (pt_val (pe_call G__law_valid (hr.mono (by first | decide | omega)) (by rfl) T.g__law_valid T.F__law_valid.kp T.b__law_valid .nil pass0 (pa_cons (pv 0) pa_nil))))
  (pss_one (ps_ret (pe_cmpR op_eq (pe_callB Gx.cr_lenQ (by rfl) T.z_len bt_len (pa_cons (pe_lc (own := [("way", 1)]) (g := (gName 1))  (by rfl) sc__law_answers.nd (pi_range1 rfl T.z_range (pa_cons pe_int pa_nil)) (blkOk_by (N := ["items", "way"]) (sc := defScope s__law_answers) (by decide +kernel)) (fun _ _ _ _ _ => (pg_name (i := 1) sc__law_answers.nd rfl (Or.inl rfl))) (fun _ _ _ _ _ => (pts_one (pt_val (pe_call G__law_refused (hr.mono (by first | decide | omega)) (by rfl) T.g__law_refused T.F__law_refused.kp T.b__law_refused .nil pass0 (pa_cons (pv 0) (pa_cons (pv 1) pa_nil)))))) (fun _ _ _ _ _ => (pv 1))) pa_nil)) pe_int (nomark _))))
  pss_nil)
  (pss_cons (ps_if (PW.pt (pw_or (pt_not (pt_val (pe_call G__law_stays (hr.mono (by first | decide | omega)) (by rfl) T.g__law_stays T.F__law_stays.kp T.b__law_stays .nil pass0 (pa_cons (pv 0) (pa_cons pe_bl (pa_cons (pe_call G_staying (hr.mono (by first | decide | omega)) (by rfl) T.g_staying T.F_staying.kp T.b_staying T.dv_staying passL (pa_cons (pv 0) pa_nil)) pa_nil)))))) (pw_or1 (pt_not (pt_val (pe_call G__law_stays (hr.mono (by first | decide | omega)) (by rfl) T.g__law_stays T.F__law_stays.kp T.b__law_stays .nil pass0 (pa_cons (pv 0) (pa_cons pe_bl (pa_cons (pe_callN G_staying (hr.mono (by first | decide | omega)) (by rfl) T.g_staying T.F_staying.kp T.bk_staying passL (pa_cons (pv 0) pa_nil) (pk_cons pe_bl pk_nil)) pa_nil)))))))))
  (pss_one (ps_ret pe_bl))
  pss_nil)
  (pss_one (ps_ret (pe_call G__law_stays (hr.mono (by first | decide | omega)) (by rfl) T.g__law_stays T.F__law_stays.kp T.b__law_stays .nil pass0 (pa_cons (pv 0) (pa_cons pe_bl (pa_cons (pe_callN G_staying (hr.mono (by first | decide | omega)) (by rfl) T.g_staying T.F_staying.kp T.bk_staying passL (pa_cons (pv 0) pa_nil) (pk_cons pe_bl pk_nil)) pa_nil))))))))), ?_⟩
    clear G_staying G__law_refused G__law_valid G__law_stays
    rw [st__law_answers]
    try dsimp only [cxOf]
    walk_at "g"
    refine ⟨a, its, rfl, hI, hil, fun H1 s1 => ?_⟩
    replace hI := s1.seqT hI
    replace q := fun H' (s : Same H1 H') => q H' (s1.trans s)
    clear s1
    walk_at "g"
    refine Gx.iteDn (fun no => ?_) (fun ok => ?_)
    · walk_at "g"
      refine ⟨3, rfl, by decide, by decide, fun D nD => lc_range (lo := 0) (n := (3 : Int).toNat) (fun i H' => Same H1 H' ∧ H' D = some (.lst (nV (List.range i)))) ⟨Gx.Same.put (Same.refl H1) nD, upd_same⟩ ?_ ?_⟩
      · rintro i H2 hi ⟨s2, e2⟩
        have hi3 : i < 3 := hi
        walk_at "g"
        refine ⟨rfl, ?_⟩
        walk_at "g"
        refine ⟨a, its, _, rfl, s2.seqT hI, hil, no, fun H3 s3 => ?_⟩
        walk_at "g"
        refine ⟨_, s3 _ _ e2, Gx.lineL (by rw [nV_len, List.length_range]; omega), Gx.Same.put (s2.trans s3) nD, ?_⟩
        rw [upd_same, List.range_succ, nV_app, Int.zero_add]
        rfl
      · rintro H2 ⟨s2, e2⟩
        have hD := SqL.of (K := K) e2
        walk_at "g"
        exact q H2 s2
    · walk_at "g"
      refine ⟨a, its, false, rfl, hI, hil, fun _ H2 t ru rows s2 tl dt => ?_, fun no => (no ok).elim⟩
      walk_at "g"
      refine ⟨a, t, its, false, ru, rows, rfl, s2.seqT hI, hil, tl, dt, fun H3 s3 => ?_⟩
      have s13 := s2.trans s3
      clear s2 s3 dt tl
      walk_at "g"
      refine ⟨rfl, rfl, a, its, false, rfl, s13.seqT hI, hil, fun _ H4 t ru rows s4 tl dt => ?_, fun no => (no ok).elim⟩
      walk_at "g"
      refine ⟨a, t, its, false, ru, rows, rfl, (s13.trans s4).seqT hI, hil, tl, dt, fun H5 s5 => ?_⟩
      have s15 := (s13.trans s4).trans s5
      clear s13 s4 s5 dt tl
      walk_at "g"
      refine ⟨rfl, rfl, a, its, true, rfl, s15.seqT hI, hil, fun _ H6 t ru rows s6 tl dt => ?_, fun no => (no ok).elim⟩
      walk_at "g"
      refine ⟨a, t, its, true, ru, rows, rfl, (s15.trans s6).seqT hI, hil, tl, dt, fun H7 s7 => ?_⟩
      exact q H7 ((s15.trans s6).trans s7)
def spLaw (K : PySem.W.Frag) : Sp := fun vs H Q _ => ∃ (a : Addr) (ns : List Int), vs = [.ref a] ∧ SqL K H a (ns.map V.int) ∧ ns.length ≤ 63 ∧ ∀ H', Q (.bl true) H'
theorem ok_law (T : Txt K mg w) : FnOk P w K mg base CX0 5 T.f_law T.fd_law ["script"] (spLaw K) := by
  have G__law_stream := G__law_stream (P := P) (w := w) (base := base) T
  have G__law_items := G__law_items (P := P) (w := w) (base := base) T
  have G__law_answers := G__law_answers (P := P) (w := w) (base := base) T
  have G__law_bent := G__law_bent (P := P) (w := w) (base := base) T
  refine T.F_law.ok sc_law (fun vs H Q E h => ?_) (fun cdv A outer s H vs Q E hr h => ?_)
  · obtain ⟨a, ns, rfl, _⟩ := h
    rfl
  · obtain ⟨a, ns, rfl, hS, hlen, q⟩ := h
    refine ⟨_, ((pss_cons (ps_set (i := 1) sc_law.nd rfl (Or.inl rfl) (pe_call G__law_stream (hr.mono (by first | decide | omega)) (by rfl) T.g__law_stream T.F__law_stream.kp T.b__law_stream .nil pass0 (pa_cons (pv 0) (pa_cons pe_int pa_nil))))
  (pss_cons (ps_set (i := 2) sc_law.nd rfl (Or.inl rfl) (pe_call G__law_items (hr.mono (by first | decide | omega)) (by rfl) T.g__law_items T.F__law_items.kp T.b__law_items .nil pass0 (pa_cons (pv 1) pa_nil)))
  (pss_cons (ps_if (PW.pt (pw_or (pt_not (pt_val (pe_call G__law_answers (hr.mono (by first | decide | omega)) (by rfl) T.g__law_answers T.F__law_answers.kp T.b__law_answers .nil pass0 (pa_cons (pe_tup pa_nil) pa_nil)))) (pw_or1 (pt_not (pt_val (pe_call G__law_answers (hr.mono (by first | decide | omega)) (by rfl) T.g__law_answers T.F__law_answers.kp T.b__law_answers .nil pass0 (pa_cons (pv 2) pa_nil)))))))
  (pss_one (ps_ret pe_bl))
  pss_nil)
  (pss_cons (ps_for PassesOwn.never rfl (pi_range1 rfl T.z_range (pa_cons pe_int pa_nil)) (pg_name (i := 3) sc_law.nd rfl (Or.inl rfl))
  (pss_one (ps_if (pt_not (pt_val (pe_call G__law_answers (hr.mono (by first | decide | omega)) (by rfl) T.g__law_answers T.F__law_answers.kp T.b__law_answers .nil pass0 (pa_cons (pe_call G__law_bent (hr.mono (by first | decide | omega)) (by rfl) T.g__law_bent T.F__law_bent.kp T.b__law_bent .nil pass0 (pa_cons (pv 2) (pa_cons (pv 1) (pa_cons (pe_op op_add pe_int (pe_op op_mul pe_int (pv 3))) pa_nil)))) pa_nil))))
  (pss_one (ps_ret pe_bl))
  pss_nil)))
  (pss_one (ps_ret pe_bl))))))), ?_⟩
    clear G__law_stream G__law_items G__law_answers G__law_bent
    rw [st_law]
    try dsimp only [cxOf]
    walk_at "g"
    refine ⟨a, ns, _, rfl, hS, hlen, by omega, by omega, fun H1 p xs s1 np e1 hx dx => ?_⟩
    have hX : SqL K H1 p (xs.map V.int) := SqL.of e1
    clear e1 s1 np hS dx
    walk_at "g"
    refine ⟨p, xs, rfl, hX, by omega, fun H2 i its s2 hI hil => ?_⟩
    replace hX := s2.seq hX
    clear s2
    walk_at "g"
    refine Gx.newT (by simp) (fun t H3 E3 => ?_)
    replace hX := E3.same.seq hX
    replace hI := E3.same.seqT hI
    walk_at "g"
    refine ⟨t, [], rfl, SqT.of E3.at_, by simp, fun H4 s4 => ?_⟩
    replace hX := s4.seq hX
    replace hI := s4.seqT hI
    clear E3 s4
    walk_at "g"
    refine ⟨i, its, rfl, hI, by omega, fun H5 s5 => ?_⟩
    replace hX := s5.seq hX
    replace hI := s5.seqT hI
    clear s5
    walk_at "g"
    refine ⟨4, rfl, by decide, by decide, for_range (n := 4) (fun j σ H6 => ∃ y, Same H5 H6 ∧ σ = [some (.ref a), some (.ref p), some (.ref i), y]) ⟨none, Same.refl _, rfl⟩ ?_ ?_⟩
    · rintro j σ H6 hj ⟨y, s6, rfl⟩
      walk_at "g"
      refine ⟨i, p, its, xs, _, rfl, s6.seqT hI, by omega, s6.seq hX, by omega, fun H7 b its' s7 hb hbl => ?_⟩
      walk_at "g"
      refine ⟨b, its', rfl, hb, by omega, fun H8 s8 => ?_⟩
      walk_at "g"
      exact ⟨_, (s6.trans s7).trans s8, rfl⟩
    · rintro σ H6 ⟨y, s6, rfl⟩
      walk_at "g"
      exact q _
end
end K39
open PySem PySem.W PyProof.Rows
set_option maxHeartbeats 0 in
theorem PySem.Challenge.cw_textsputback_k39_pieces_that_stay_holds : PySem.Challenge.rw_textsputback_k39_pieces_that_stay.Holds := by
  w_on; o_law; k_head; (case hw => w_witness2)
  k_fill
  refine L2.walk_of (l := PySem.Challenge.rw_textsputback_k39_pieces_that_stay) (n := 63) (k := 5) (x := "script") (CX := fun _ => L2.CX0) (sp := fun w => K39.spLaw _) rfl (by decide) rfl ⟨rfl, by decide, by decide⟩ (fun w h Y => PySem.W.kIn_of Y) ?F (fun _ _ a ns hl _ hS => ⟨a, ns, rfl, hS, hl, fun _ => rfl⟩) (fun _ _ _ _ _ h => h)
  case F =>
    intro w mg fa h KX G hmg
    obtain ⟨T, e⟩ : ∃ T : K39.Txt _ mg w, T.f_law = fa := by
      refine' K39.txt_mk KX G ?ga_LensError ?k_LensError ?x_LensError ?bP_LensError ?tP_LensError ?iP_LensError ?ga_BadAlignment ?k_BadAlignment ?x_BadAlignment ?bP_BadAlignment ?tP_BadAlignment ?iP_BadAlignment ?ga_ranks_of ?l_ranks_of ?cc_ranks_of ?k_ranks_of ?ga_staying ?l_staying ?cc_staying ?k_staying ?kd_staying_falling ?ga__law_mix ?l__law_mix ?cc__law_mix ?k__law_mix ?ga__law_stream ?l__law_stream ?cc__law_stream ?k__law_stream ?ga__law_pick ?l__law_pick ?cc__law_pick ?k__law_pick ?ga__law_wide ?l__law_wide ?cc__law_wide ?k__law_wide ?ga__law_order ?l__law_order ?cc__law_order ?k__law_order ?ga__law_items ?l__law_items ?cc__law_items ?k__law_items ?ga__law_bent ?l__law_bent ?cc__law_bent ?k__law_bent ?ga__law_valid ?l__law_valid ?cc__law_valid ?k__law_valid ?ga__law_ascends ?l__law_ascends ?cc__law_ascends ?k__law_ascends ?ga__law_longest ?l__law_longest ?cc__law_longest ?k__law_longest ?ga__law_places ?l__law_places ?cc__law_places ?k__law_places ?ga__law_stays ?l__law_stays ?cc__law_stays ?k__law_stays ?ga__law_refused ?l__law_refused ?cc__law_refused ?k__law_refused ?ga__law_answers ?l__law_answers ?cc__law_answers ?k__law_answers ?ga_law ?l_law ?cc_law ?k_law ?zz_ValueError ?zz_abs ?zz_any ?zz_bool ?zz_enumerate ?zz_int ?zz_isinstance ?zz_len ?zz_list ?zz_max ?zz_range ?zz_set ?zz_sorted ?zz_tuple ?ecg ?eck ?ecd ?eca ?ecm ?em_bl ?kv_bs ?hn_ ?htk_ hmg
      (case ga_LensError => first | k_is | rfl | decide +kernel)
      (case k_LensError => first | k_is | rfl | decide +kernel)
      (case x_LensError => k_exc)
      (case bP_LensError => first | k_is | rfl | decide +kernel)
      (case tP_LensError => first | k_is | rfl | decide +kernel)
      (case iP_LensError => first | k_is | rfl | decide +kernel)
      (case ga_BadAlignment => first | k_is | rfl | decide +kernel)
      (case k_BadAlignment => first | k_is | rfl | decide +kernel)
      (case x_BadAlignment => k_exc)
      (case bP_BadAlignment => first | k_is | rfl | decide +kernel)
      (case tP_BadAlignment => first | k_is | rfl | decide +kernel)
      (case iP_BadAlignment => first | k_is | rfl | decide +kernel)
      (case ga_ranks_of => first | k_is | rfl | decide +kernel)
      (case l_ranks_of => first | k_is | rfl | decide +kernel)
      (case cc_ranks_of => first | k_is | rfl | decide +kernel)
      (case k_ranks_of => first | k_is | rfl | decide +kernel)
      (case ga_staying => first | k_is | rfl | decide +kernel)
      (case l_staying => first | k_is | rfl | decide +kernel)
      (case cc_staying => first | k_is | rfl | decide +kernel)
      (case k_staying => first | k_is | rfl | decide +kernel)
      (case kd_staying_falling => first | k_is | rfl | decide +kernel)
      (case ga__law_mix => first | k_is | rfl | decide +kernel)
      (case l__law_mix => first | k_is | rfl | decide +kernel)
      (case cc__law_mix => first | k_is | rfl | decide +kernel)
      (case k__law_mix => first | k_is | rfl | decide +kernel)
      (case ga__law_stream => first | k_is | rfl | decide +kernel)
      (case l__law_stream => first | k_is | rfl | decide +kernel)
      (case cc__law_stream => first | k_is | rfl | decide +kernel)
      (case k__law_stream => first | k_is | rfl | decide +kernel)
      (case ga__law_pick => first | k_is | rfl | decide +kernel)
      (case l__law_pick => first | k_is | rfl | decide +kernel)
      (case cc__law_pick => first | k_is | rfl | decide +kernel)
      (case k__law_pick => first | k_is | rfl | decide +kernel)
      (case ga__law_wide => first | k_is | rfl | decide +kernel)
      (case l__law_wide => first | k_is | rfl | decide +kernel)
      (case cc__law_wide => first | k_is | rfl | decide +kernel)
      (case k__law_wide => first | k_is | rfl | decide +kernel)
      (case ga__law_order => first | k_is | rfl | decide +kernel)
      (case l__law_order => first | k_is | rfl | decide +kernel)
      (case cc__law_order => first | k_is | rfl | decide +kernel)
      (case k__law_order => first | k_is | rfl | decide +kernel)
      (case ga__law_items => first | k_is | rfl | decide +kernel)
      (case l__law_items => first | k_is | rfl | decide +kernel)
      (case cc__law_items => first | k_is | rfl | decide +kernel)
      (case k__law_items => first | k_is | rfl | decide +kernel)
      (case ga__law_bent => first | k_is | rfl | decide +kernel)
      (case l__law_bent => first | k_is | rfl | decide +kernel)
      (case cc__law_bent => first | k_is | rfl | decide +kernel)
      (case k__law_bent => first | k_is | rfl | decide +kernel)
      (case ga__law_valid => first | k_is | rfl | decide +kernel)
      (case l__law_valid => first | k_is | rfl | decide +kernel)
      (case cc__law_valid => first | k_is | rfl | decide +kernel)
      (case k__law_valid => first | k_is | rfl | decide +kernel)
      (case ga__law_ascends => first | k_is | rfl | decide +kernel)
      (case l__law_ascends => first | k_is | rfl | decide +kernel)
      (case cc__law_ascends => first | k_is | rfl | decide +kernel)
      (case k__law_ascends => first | k_is | rfl | decide +kernel)
      (case ga__law_longest => first | k_is | rfl | decide +kernel)
      (case l__law_longest => first | k_is | rfl | decide +kernel)
      (case cc__law_longest => first | k_is | rfl | decide +kernel)
      (case k__law_longest => first | k_is | rfl | decide +kernel)
      (case ga__law_places => first | k_is | rfl | decide +kernel)
      (case l__law_places => first | k_is | rfl | decide +kernel)
      (case cc__law_places => first | k_is | rfl | decide +kernel)
      (case k__law_places => first | k_is | rfl | decide +kernel)
      (case ga__law_stays => first | k_is | rfl | decide +kernel)
      (case l__law_stays => first | k_is | rfl | decide +kernel)
      (case cc__law_stays => first | k_is | rfl | decide +kernel)
      (case k__law_stays => first | k_is | rfl | decide +kernel)
      (case ga__law_refused => first | k_is | rfl | decide +kernel)
      (case l__law_refused => first | k_is | rfl | decide +kernel)
      (case cc__law_refused => first | k_is | rfl | decide +kernel)
      (case k__law_refused => first | k_is | rfl | decide +kernel)
      (case ga__law_answers => first | k_is | rfl | decide +kernel)
      (case l__law_answers => first | k_is | rfl | decide +kernel)
      (case cc__law_answers => first | k_is | rfl | decide +kernel)
      (case k__law_answers => first | k_is | rfl | decide +kernel)
      (case ga_law => first | k_is | rfl | decide +kernel)
      (case l_law => first | k_is | rfl | decide +kernel)
      (case cc_law => first | k_is | rfl | decide +kernel)
      (case k_law => first | k_is | rfl | decide +kernel)
      (case zz_ValueError => first | k_is | rfl | decide +kernel)
      (case zz_abs => first | k_is | rfl | decide +kernel)
      (case zz_any => first | k_is | rfl | decide +kernel)
      (case zz_bool => first | k_is | rfl | decide +kernel)
      (case zz_enumerate => first | k_is | rfl | decide +kernel)
      (case zz_int => first | k_is | rfl | decide +kernel)
      (case zz_isinstance => first | k_is | rfl | decide +kernel)
      (case zz_len => first | k_is | rfl | decide +kernel)
      (case zz_list => first | k_is | rfl | decide +kernel)
      (case zz_max => first | k_is | rfl | decide +kernel)
      (case zz_range => first | k_is | rfl | decide +kernel)
      (case zz_set => first | k_is | rfl | decide +kernel)
      (case zz_sorted => first | k_is | rfl | decide +kernel)
      (case zz_tuple => first | k_is | rfl | decide +kernel)
      (case ecg => first | k_is | rfl | decide +kernel)
      (case eck => first | k_is | rfl | decide +kernel)
      (case ecd => first | k_is | rfl | decide +kernel)
      (case eca => first | k_is | rfl | decide +kernel)
      (case ecm => first | k_is | rfl | decide +kernel)
      (case em_bl => first | k_is | rfl | decide +kernel)
      (case kv_bs => first | k_is | rfl | decide +kernel)
      (case hn_ => first | k_is | rfl | decide +kernel)
      (case htk_ => first | k_is | rfl | decide +kernel)
    subst e
    exact ⟨T.fd_law, T.bt_law, fun base _ _ => K39.ok_law T⟩
