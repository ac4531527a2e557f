import PyProof.Rows.All
import Wide.All
import OpenK.AllK
import Wide.FinOn
import PySem.Challenge.RW_textsputback_k15_solved_equations
import HandS.TupAny
import KE.OsSetLaws
import HandS.ForMost
import HandS.ForExc
import HandS.IsInst
import HandS.Style
import HandS.Property
import HandS.Codes
import HandS.Star
import HandS.CallSlots
import HandS.WordsExc
import HandS.ExcIs
import HandS.ExcInit
import HandS.SortInts
import HandS.DictComp
import HandS.TupLen
import HandS.Conv
import HandS.ListItems
import HandS.Walk
import HandS.Defaults
import HandS.MakeKwOnly
import HandS.MakeKw
import HandS.Zip
import KE.KDictKeyed
import KE.GoesMore
import PyProof.EnumMake
import PyProof.Draws
import HandS.HeadHook3
import HandS.Replace
import HandS.SortOrd
import PyProof.CollectStr
import PyProof.ListStr
import HandS.HotCalls
import HandS.SortKw
import HandS.More
import HandS.Zip0
import KE.GoesRaise
import KE.GoesEnum
import KE.GoesMore
set_option Elab.async false
set_option linter.all false
set_option maxRecDepth 100000
set_option maxHeartbeats 400000
/-! ### my short words for readings -/
namespace Gx
open PySem PySem.Spec PyProof.Rows L2
section
variable {σ : L2.St} {H : Hp} {Q : VK} {D : Ends} {ta tb te : TE} {t u : TS} {x y v : V} {K : PySem.W.Frag}
theorem seq (h : t { D with nx := u D } σ H) : tSeq t u D σ H := h
theorem nx {n : L2.St → Hp → Prop} {r : VK} {b c : L2.St → Hp → Prop} (h : n σ H) : Ends.nx ⟨n, r, b, c⟩ σ H := h
theorem rt {n : L2.St → Hp → Prop} {r : VK} {b c : L2.St → Hp → Prop} (h : r v H) : Ends.rt ⟨n, r, b, c⟩ v H := h
theorem bk {n : L2.St → Hp → Prop} {r : VK} {b c : L2.St → Hp → Prop} (h : b σ H) : Ends.bk ⟨n, r, b, c⟩ σ H := h
theorem ct {n : L2.St → Hp → Prop} {r : VK} {b c : L2.St → Hp → Prop} (h : c σ H) : Ends.ct ⟨n, r, b, c⟩ σ H := h
theorem next (h : D.nx σ H) : tNext D σ H := h
theorem brk (h : D.bk σ H) : tBreak D σ H := h
theorem cont (h : D.ct σ H) : tCont D σ H := h
theorem asg {g : TG} (h : te σ H fun x H1 => g x σ H1 D.nx) : tAsg te g D σ H := h
theorem ret (h : te σ H D.rt) : tRet te D σ H := h
theorem retN (h : D.rt .non H) : tRetN D σ H := h
theorem drop (h : te σ H fun _ H1 => D.nx σ H1) : tDrop te D σ H := h
theorem ifs {c : TT} (h : c σ H fun b H1 => if b = true then t D σ H1 else u D σ H1) : tIfS c t u D σ H := h
theorem var {i : Nat} (e : σ[i]? = some (some v)) (h : Q v H) : tVar i σ H Q := ⟨v, e, h⟩
theorem con (h : Q v H) : tC v σ H Q := h
theorem op {r : R2} (h : ta σ H fun x H1 => tb σ H1 fun y H2 => r x y H2 Q) : tOp r ta tb σ H Q := h
theorem un {r : V → Hp → VK → Prop} (h : ta σ H fun x H1 => r x H1 Q) : tUn r ta σ H Q := h
theorem i0 {g : Int → Int → V} {i j : Int} (h : Q (g i j) H) : rI0 g (.int i) (.int j) H Q := ⟨i, j, rfl, rfl, h⟩
theorem i1 {C : Int → Int → Prop} {g : Int → Int → V} {i j : Int} (c : C i j) (h : Q (g i j) H) : rI C g (.int i) (.int j) H Q := ⟨i, j, rfl, rfl, c, h⟩
theorem iu {g : Int → V} {i : Int} (h : Q (g i) H) : rU g (.int i) H Q := ⟨i, rfl, h⟩
theorem eqI {i j : Int} (h : Q (.bl (decide (i = j))) H) : rEq (.int i) (.int j) H Q := ⟨rfl, by rw [show decide (V.int i = V.int j) = decide (i = j) from by simp]; exact h⟩
theorem eqS {i j : Str} (h : Q (.bl (decide (i = j))) H) : rEq (.str i) (.str j) H Q := ⟨rfl, by rw [show decide (V.str i = V.str j) = decide (i = j) from by simp]; exact h⟩
theorem eqB {i j : Bool} (h : Q (.bl (decide (i = j))) H) : rEq (.bl i) (.bl j) H Q := ⟨rfl, by rw [show decide (V.bl i = V.bl j) = decide (i = j) from by simp]; exact h⟩
theorem neI {i j : Int} (h : Q (.bl (!decide (i = j))) H) : rNe (.int i) (.int j) H Q := ⟨rfl, by rw [show decide (V.int i = V.int j) = decide (i = j) from by simp]; exact h⟩
theorem neS {i j : Str} (h : Q (.bl (!decide (i = j))) H) : rNe (.str i) (.str j) H Q := ⟨rfl, by rw [show decide (V.str i = V.str j) = decide (i = j) from by simp]; exact h⟩
theorem isB {a b : Bool} (h : Q (.bl (decide (a = b))) H) : rIsB (.bl a) (.bl b) H Q := ⟨a, b, rfl, rfl, h⟩
theorem name {i : Nat} {N : L2.St → Hp → Prop} (h : N (σ.set i (some v)) H) : gName i v σ H N := h
theorem test {Q : Bool → Hp → Prop} (h : te σ H fun x H' => ∃ k, x = .bl k ∧ Q k H') : tTest te σ H Q := h
theorem tB {Q : Bool → Hp → Prop} (h : te σ H fun x H' => ∃ k, x = .bl k ∧ Q k H') : tB te σ H Q := h
theorem exb {b : Bool} {p : Bool → Prop} (h : p b) : ∃ k, V.bl b = .bl k ∧ p k := ⟨b, rfl, h⟩
theorem exi {b : Int} {p : Int → Prop} (h : p b) : ∃ k, V.int b = .int k ∧ p k := ⟨b, rfl, h⟩
theorem exs {b : Str} {p : Str → Prop} (h : p b) : ∃ k, V.str b = .str k ∧ p k := ⟨b, rfl, h⟩
theorem exr {b : Addr} {p : Addr → Prop} (h : p b) : ∃ k, V.ref b = .ref k ∧ p k := ⟨b, rfl, h⟩
theorem not {c : TT} {Q : Bool → Hp → Prop} (h : c σ H fun b H1 => Q (!b) H1) : tNot c σ H Q := h
theorem and {c d : TT} {Q : Bool → Hp → Prop} (h : c σ H fun b H1 => if b = true then d σ H1 Q else Q false H1) : tAnd c d σ H Q := h
theorem or {c d : TT} {Q : Bool → Hp → Prop} (h : c σ H fun b H1 => if b = true then Q true H1 else d σ H1 Q) : tOr c d σ H Q := h
theorem notV (h : te σ H fun x H1 => ∃ c, x = .bl c ∧ Q (.bl (!c)) H1) : tNotV te σ H Q := h
theorem andV (h : ta σ H fun x H1 => ∃ c, x = .bl c ∧ if c = true then tb σ H1 Q else Q (.bl false) H1) : tAndV ta tb σ H Q := h
theorem orV (h : ta σ H fun x H1 => ∃ c, x = .bl c ∧ if c = true then Q (.bl true) H1 else tb σ H1 Q) : tOrV ta tb σ H Q := h
theorem ifE {c : TT} (h : c σ H fun b H1 => if b = true then ta σ H1 Q else tb σ H1 Q) : tIf c ta tb σ H Q := h
theorem cb {r : List V → Hp → VK → Prop} {t : TA} (h : t σ H fun vs H1 => r vs H1 Q) : tCB r t σ H Q := h
theorem anil {Q : List V → Hp → Prop} (h : Q [] H) : tNil σ H Q := h
theorem acons {tr : TA} {Q : List V → Hp → Prop} (h : te σ H fun x H1 => tr σ H1 fun xs H2 => Q (x :: xs) H2) : tCons te tr σ H Q := h
def CallK (sp : Sp) (dvs : List V) (E : XK) (vs : List V) (H : Hp) (Q : VK) : Prop := sp (vs ++ dvs) H Q E
theorem call {sp : Sp} {dvs : List V} {E : XK} {t : TA} (h : t σ H fun vs H1 => CallK sp dvs E vs H1 Q) : tCall sp dvs E t σ H Q := h
theorem call0 {sp : Sp} {E : XK} {vs : List V} (h : sp vs H Q E) : CallK sp [] E vs H Q := by
  unfold CallK
  rw [List.append_nil]
  exact h
/-- a new tuple, a new list is laid -/
def NewT (xs : List V) (H : Hp) (Q : VK) : Prop := xs.length ≤ sizeLine ∧ ∀ p, H p = none → Q (.ref p) (upd H p (.tup xs))
def NewL (xs : List V) (H : Hp) (Q : VK) : Prop := xs.length ≤ sizeLine ∧ ∀ p, H p = none → Q (.ref p) (upd H p (.lst xs))
theorem tup {t : TA} (h : t σ H fun xs H1 => NewT xs H1 Q) : tTup t σ H Q := h
theorem lst {t : TA} (h : t σ H fun xs H1 => NewL xs H1 Q) : tLst t σ H Q := h
theorem sl {r : V → Option Int → Option Int → Hp → VK → Prop} {tl th : TO} (h : te σ H fun x H1 => tl σ H1 fun l H2 => th σ H2 fun u H3 => r x l u H3 Q) : tSl r te tl th σ H Q := h
theorem nopart {Q : Option Int → Hp → Prop} (h : Q none H) : tNoPart σ H Q := h
theorem part {Q : Option Int → Hp → Prop} (h : te σ H fun x H1 => ∃ i, x = .int i ∧ Q (some i) H1) : tPart te σ H Q := h
theorem slS {z : Str} {lo hi : Option Int} (e : z.length ≤ sizeLine) (h : Q (.str (cutS z lo hi)) H) : rSlS (.str z) lo hi H Q := ⟨z, rfl, e, h⟩
theorem slL {a : Addr} {xs : List V} {lo hi : Option Int} (e : SqL K H a xs) (h : ∀ p, H p = none → Q (.ref p) (upd H p (.lst (cutV xs lo hi)))) : rSlL K (.ref a) lo hi H Q := ⟨a, xs, rfl, e, h⟩
theorem aug {i : Nat} {ti : TIp} (e : σ[i]? = some (some x)) (h : te σ H fun y H1 => ti x y H1 fun z H2 => D.nx (σ.set i (some z)) H2) : tAug i te ti D σ H := ⟨x, e, h⟩
theorem ipi {f : Int → Int → Int} {i j : Int} (h : Q (.int (f i j)) H) : ipI f (.int i) (.int j) H Q := ⟨i, j, rfl, rfl, h⟩
/-! built-ins by name -/
def rLenS : List V → Hp → VK → Prop := fun xs H Q => ∃ z, xs = [.str z] ∧ z.length ≤ sizeLine ∧ Q (.int z.length) H
def rLenQ (K : PySem.W.Frag) : List V → Hp → VK → Prop := fun xs H Q => ∃ p ys, xs = [.ref p] ∧ (SqL K H p ys ∨ SqT K H p ys) ∧ Q (.int ys.length) H
def rAbs : List V → Hp → VK → Prop := fun xs H Q => ∃ i, xs = [.int i] ∧ Q (.int (if i < 0 then -i else i)) H
def rMin2 : List V → Hp → VK → Prop := fun xs H Q => ∃ i j, xs = [.int i, .int j] ∧ Q (.int (if j < i then j else i)) H
def rMax2 : List V → Hp → VK → Prop := fun xs H Q => ∃ i j, xs = [.int i, .int j] ∧ Q (.int (if j > i then j else i)) H
def rInt1 : List V → Hp → VK → Prop := fun xs H Q => (∃ i, xs = [.int i] ∧ Q (.int i) H) ∨ ∃ k, xs = [.bl k] ∧ Q (.int (if k then 1 else 0)) H
def rAddS : R2 := fun x y H Q => ∃ i j, x = .str i ∧ y = .str j ∧ i.length + j.length ≤ sizeLine ∧ Q (.str (i ++ j)) H
theorem addS {i j : Str} (c : i.length + j.length ≤ sizeLine) (h : Q (.str (i ++ j)) H) : rAddS (.str i) (.str j) H Q := ⟨i, j, rfl, rfl, c, h⟩
theorem lenS {z : Str} (c : z.length ≤ sizeLine) (h : Q (.int z.length) H) : rLenS [.str z] H Q := ⟨z, rfl, c, h⟩
theorem lenL {p : Addr} {xs : List V} (c : SqL K H p xs) (h : Q (.int xs.length) H) : rLenQ K [.ref p] H Q := ⟨p, xs, rfl, .inl c, h⟩
theorem lenT {p : Addr} {xs : List V} (c : SqT K H p xs) (h : Q (.int xs.length) H) : rLenQ K [.ref p] H Q := ⟨p, xs, rfl, .inr c, h⟩
theorem abs {i : Int} (h : Q (.int (if i < 0 then -i else i)) H) : rAbs [.int i] H Q := ⟨i, rfl, h⟩
theorem min2 {i j : Int} (h : Q (.int (if j < i then j else i)) H) : rMin2 [.int i, .int j] H Q := ⟨i, j, rfl, h⟩
theorem max2 {i j : Int} (h : Q (.int (if j > i then j else i)) H) : rMax2 [.int i, .int j] H Q := ⟨i, j, rfl, h⟩
theorem int1 {i : Int} (h : Q (.int i) H) : rInt1 [.int i] H Q := .inl ⟨i, rfl, h⟩
theorem ixL {p : Addr} {xs : List V} {i : Int} (c : SqL K H p xs) (a : atI xs i = some v) (h : Q v H) : rIxL K (.ref p) (.int i) H Q := ⟨p, xs, i, v, rfl, rfl, c, a, h⟩
theorem atI_map {α : Type} {f : α → V} {xs : List α} {d : α} {i : Int} (h0 : 0 ≤ i) (h1 : i < xs.length) : atI (xs.map f) i = some (f (xs.getD i.toNat d)) := by
  have e : i = ((i.toNat : Nat) : Int) := by omega
  have h2 : i.toNat < xs.length := by omega
  rw [e]
  refine atI_nat ?_
  rw [List.getElem?_map, Int.toNat_natCast, List.getElem?_eq_getElem h2, List.getD_eq_getElem?_getD, List.getElem?_eq_getElem h2]
  rfl
theorem ixLI {p : Addr} {xs : List Int} {i : Int} (c : SqL K H p (xs.map V.int)) (h0 : 0 ≤ i) (h1 : i < xs.length) (h : Q (.int (xs.getD i.toNat 0)) H) : rIxL K (.ref p) (.int i) H Q := ⟨p, _, i, _, rfl, rfl, c, atI_map h0 h1, h⟩
theorem lenLm {α : Type} {f : α → V} {p : Addr} {xs : List α} (c : SqL K H p (xs.map f)) (h : Q (.int xs.length) H) : rLenQ K [.ref p] H Q := ⟨p, _, rfl, .inl c, by rw [List.length_map]; exact h⟩
theorem lenTm {α : Type} {f : α → V} {p : Addr} {xs : List α} (c : SqT K H p (xs.map f)) (h : Q (.int xs.length) H) : rLenQ K [.ref p] H Q := ⟨p, _, rfl, .inr c, by rw [List.length_map]; exact h⟩
theorem ixT {p : Addr} {xs : List V} {i : Int} (c : SqT K H p xs) (a : atI xs i = some v) (h : Q v H) : rIxT K (.ref p) (.int i) H Q := ⟨p, xs, i, v, rfl, rfl, c, a, h⟩
theorem ixS {z : Str} {i : Int} {c : Nat} (l : z.length ≤ sizeLine) (a : atI z.cps.toList i = some c) (h : Q (.str ⟨#[c]⟩) H) : rIxS (.str z) (.int i) H Q := ⟨z, i, c, rfl, rfl, l, a, h⟩
theorem bm {T : String} {r : V → List V → Hp → VK → Prop} {t : TA} (h : ta σ H fun x H1 => tyV K T x H1 ∧ t σ H1 fun xs H2 => r x xs H2 Q) : tBM K T r ta t σ H Q := h
theorem bm0 {T : String} {r : V → List V → Hp → VK → Prop} (h : ta σ H fun x H1 => tyV K T x H1 ∧ r x [] H1 Q) : tBM0 K T r ta σ H Q := h
theorem tyL {p : Addr} {xs : List V} {A : Prop} (e : H p = some (.lst xs)) (h : A) : tyV K "list" (.ref p) H ∧ A := ⟨.inl ⟨rfl, _, .inl (.inl e)⟩, h⟩
theorem app {p : Addr} {xs : List V} (e : H p = some (.lst xs)) (c : xs.length < sizeLine) (h : Q .non (upd H p (.lst (xs ++ [y])))) : rAppend (.ref p) [y] H Q := ⟨p, xs, y, rfl, rfl, e, c, h⟩
theorem appI {p : Addr} {xs : List Int} {z : Int} (e : H p = some (.lst (xs.map V.int))) (c : xs.length < 16777216) (h : Q .non (upd H p (.lst ((xs ++ [z]).map V.int)))) : rAppend (.ref p) [.int z] H Q := ⟨p, _, _, rfl, rfl, e, by rw [List.length_map, sizeLine_eq]; exact c, by rw [List.map_append] at h; exact h⟩
theorem appS {p : Addr} {xs : List Str} {z : Str} (e : H p = some (.lst (xs.map V.str))) (c : xs.length < 16777216) (h : Q .non (upd H p (.lst ((xs ++ [z]).map V.str)))) : rAppend (.ref p) [.str z] H Q := ⟨p, _, _, rfl, rfl, e, by rw [List.length_map, sizeLine_eq]; exact c, by rw [List.map_append] at h; exact h⟩
theorem appR {p : Addr} {xs : List Addr} {z : Addr} (e : H p = some (.lst (xs.map V.ref))) (c : xs.length < 16777216) (h : Q .non (upd H p (.lst ((xs ++ [z]).map V.ref)))) : rAppend (.ref p) [.ref z] H Q := ⟨p, _, _, rfl, rfl, e, by rw [List.length_map, sizeLine_eq]; exact c, by rw [List.map_append] at h; exact h⟩
theorem for_ {wi : TI} {g : TG} (h : wi σ H fun J H1 => ∃ W : Nat → Nat → L2.St → Hp → Prop, (∃ m, W 0 m σ H1) ∧ ∀ i m σ H, W i m σ H →
  (J.stop i H ∧ D.nx σ H) ∨ (J.go i H ∧ ∃ N : L2.St → Hp → Prop, (∀ σ' H', N σ' H' → ∃ m', m' < m ∧ W (i + 1) m' σ' H') ∧ ∀ x H', J.yld i H x H' → g x σ H' fun σ2 H2 => t { D with nx := N, ct := N, bk := D.nx } σ2 H2)) : tFor wi g t D σ H := h
theorem rng1 {tas : TA} {R : It → Hp → Prop} (h : tas σ H fun vs H1 => ∃ j : Int, vs = [.int j] ∧ -(2 ^ 62) ≤ j ∧ j < 2 ^ 62 ∧ R (Itr 0 j.toNat) H1) : iRng1 tas σ H R := h
theorem rng2 {tas : TA} {R : It → Hp → Prop} (h : tas σ H fun vs H1 => ∃ i j : Int, vs = [.int i, .int j] ∧ (-(2 ^ 62) ≤ i ∧ i < 2 ^ 62 ∧ -(2 ^ 62) ≤ j ∧ j < 2 ^ 62) ∧ R (Itr i (j - i).toNat) H1) : iRng2 tas σ H R := h
theorem ilst {R : It → Hp → Prop} (h : te σ H fun x H1 => ∃ a, x = .ref a ∧ (∃ xs, SqL K H1 a xs) ∧ R (Itl K a) H1) : iList K te σ H R := h
theorem itup {R : It → Hp → Prop} (h : te σ H fun x H1 => ∃ a, x = .ref a ∧ (∃ xs, SqT K H1 a xs) ∧ R (Itt K a) H1) : iTup K te σ H R := h
theorem lc {wi : TI} {g : TG} {tt : TT} {vs : List Nat} (h : wi σ H fun J H1 => ∀ D, H1 D = none → ∃ W : Nat → Nat → Hp → Prop, (∃ m, W 0 m (upd H1 D (.lst []))) ∧ ∀ i m H, W i m H →
  (J.stop i H ∧ Q (.ref D) H) ∨ (J.go i H ∧ ∃ Nx : Hp → Prop, (∀ H', Nx H' → ∃ m', m' < m ∧ W (i + 1) m' H') ∧ ∀ x H', J.yld i H x H' → g x (wipe σ vs) H' fun σ2 H2 => wipe σ2 vs = wipe σ vs ∧ tt σ2 H2 fun b H3 =>
    if b = true then te σ2 H3 fun y H4 => ∃ acc, H4 D = some (.lst acc) ∧ acc.length < sizeLine ∧ Nx (upd H4 D (.lst (acc ++ [y]))) else Nx H3)) : tLc wi g tt te vs σ H Q := h
theorem yes {Q : Bool → Hp → Prop} (h : Q true H) : tYes σ H Q := h
/-- a new object: the heap behind it by what is known of it -/
structure Ext1 (H H1 : Hp) (p : Addr) (o : HO) : Prop where
  fresh : H p = none
  same : Same H H1
  at_ : H1 p = some o
  off : ∀ b, b ≠ p → H1 b = H b
theorem new {o : HO} {R : Addr → Hp → Prop} (h : ∀ p H1, Ext1 H H1 p o → R p H1) : ∀ p, H p = none → R p (upd H p o) := fun p np =>
  h p _ ⟨np, fun b u e => by rw [upd_ne (ne_of_none e np)]; exact e, upd_same, fun b hb => upd_ne hb⟩
theorem ext1 {p : Addr} {o : HO} (np : H p = none) : Ext1 H (upd H p o) p o := ⟨np, fun b u e => by rw [upd_ne (ne_of_none e np)]; exact e, upd_same, fun b hb => upd_ne hb⟩
theorem newL {xs : List V} (c : xs.length ≤ 16777216) (h : ∀ p H1, Ext1 H H1 p (.lst xs) → Q (.ref p) H1) : NewL xs H Q := ⟨by rw [sizeLine_eq]; exact c, fun p np => h p _ (ext1 np)⟩
theorem newT {xs : List V} (c : xs.length ≤ 16777216) (h : ∀ p H1, Ext1 H H1 p (.tup xs) → Q (.ref p) H1) : NewT xs H Q := ⟨by rw [sizeLine_eq]; exact c, fun p np => h p _ (ext1 np)⟩
theorem slL1 {a : Addr} {xs : List V} {lo hi : Option Int} (e : SqL K H a xs) (h : ∀ p H1, Ext1 H H1 p (.lst (cutV xs lo hi)) → Q (.ref p) H1) : rSlL K (.ref a) lo hi H Q := ⟨a, xs, rfl, e, fun p np => h p _ (ext1 np)⟩
theorem cat1 {a b : Addr} {xs ys : List V} (e1 : H a = some (.lst xs)) (e2 : H b = some (.lst ys)) (c : xs.length + ys.length ≤ 16777216) (h : ∀ p H1, Ext1 H H1 p (.lst (xs ++ ys)) → Q (.ref p) H1) : rCat (.ref a) (.ref b) H Q :=
  ⟨a, b, xs, ys, rfl, rfl, e1, e2, by rw [sizeLine_eq]; exact c, fun p np => h p _ (ext1 np)⟩
/-- a new list or tuple is displayed -/
theorem newD {n : Nat} {o : HO} {R : Addr → Hp → Prop} (c : n ≤ sizeLine) (h : ∀ p H1, Ext1 H H1 p o → R p H1) : n ≤ sizeLine ∧ ∀ p, H p = none → R p (upd H p o) := ⟨c, new h⟩
/-- an object that H0 does not know is written -/
theorem Same.put {H0 H1 : Hp} {p : Addr} {o : HO} (s : Same H0 H1) (n : H0 p = none) : Same H0 (upd H1 p o) := fun b u e => by rw [upd_ne (ne_of_none e n)]; exact s b u e
theorem made_same {H H' : Hp} {x dx C : Addr} {fs : List (Str × V)} (nx : H x = none) (ndx : H dx = none) (off : ∀ b, b ≠ x → H' b = (upd (upd H dx (.own x)) x (.ins C dx fs)) b) : Same H H' := fun b o e => by
  rw [off b (ne_of_none e nx), upd_ne (ne_of_none e nx), upd_ne (ne_of_none e ndx)]
  exact e
theorem and2 {p1 p2 : Prop} [Decidable p1] [Decidable p2] {tb : TE} (hb : p1 → ∀ Q' : VK, Q' (.bl (decide p2)) H → tb σ H Q') (h : Q (.bl (decide (p1 ∧ p2))) H) : if decide p1 = true then tb σ H Q else Q (.bl false) H := by
  by_cases h1 : p1
  · rw [decide_eq_true h1]
    refine hb h1 _ ?_
    rw [show decide (p1 ∧ p2) = decide p2 from decide_eq_decide.mpr ⟨fun h => h.2, fun h => ⟨h1, h⟩⟩] at h
    exact h
  · rw [decide_eq_false h1]
    rw [show decide (p1 ∧ p2) = false from decide_eq_false fun z => h1 z.1] at h
    exact h
theorem and3 {p1 p2 p3 : Prop} [Decidable p1] [Decidable p2] [Decidable p3] {tb tc : TE} (hb : p1 → ∀ Q' : VK, Q' (.bl (decide p2)) H → tb σ H Q') (hc : p1 → p2 → ∀ Q' : VK, Q' (.bl (decide p3)) H → tc σ H Q')
    (h : Q (.bl (decide (p1 ∧ p2 ∧ p3))) H) : if decide p1 = true then tAndV tb tc σ H Q else Q (.bl false) H :=
  and2 (p2 := p2 ∧ p3) (fun h1 Q' q => hb h1 _ ⟨_, rfl, and2 (hc h1) q⟩) h
theorem ok2 : (2 : Int) ^ 62 = 4611686018427387904 := by decide
theorem iteD {p : Prop} [Decidable p] {A B : Prop} (h1 : p → A) (h2 : ¬ p → B) : if decide p = true then A else B := by
  by_cases h : p
  · rw [decide_eq_true h]; exact h1 h
  · rw [decide_eq_false h]; exact h2 h
theorem iteDn {p : Prop} [Decidable p] {A B : Prop} (h1 : ¬ p → A) (h2 : p → B) : if (!decide p) = true then A else B := by
  by_cases h : p
  · rw [decide_eq_true h]; exact h2 h
  · rw [decide_eq_false h]; exact h1 h
theorem iteB {b : Bool} {A B : Prop} (h1 : b = true → A) (h2 : b = false → B) : if b = true then A else B := by
  cases b
  · exact h2 rfl
  · exact h1 rfl
theorem iteNB {b : Bool} {A B : Prop} (h1 : b = false → A) (h2 : b = true → B) : if (!b) = true then A else B := by
  cases b
  · exact h1 rfl
  · exact h2 rfl
theorem cmulR {i j : Int} (h1 : -18446744073709551616 < j) (h2 : j < 18446744073709551616) : CMul i j := .inr ⟨by simpa using h1, by simpa using h2⟩
theorem cmulL {i j : Int} (h1 : -18446744073709551616 < i) (h2 : i < 18446744073709551616) : CMul i j := .inl ⟨by simpa using h1, by simpa using h2⟩
theorem cdiv {i j : Int} (h1 : 0 < j) (h2 : j < 1073741824) : CDiv i j := ⟨h1, h2⟩
theorem cpow {i j : Int} (h1 : 0 ≤ j) (h2 : j ≤ 1000000) (h3 : i.natAbs < 18446744073709551616) : CPow i j := ⟨h1, h2, by simpa using h3⟩
theorem line {n : Nat} (h : n ≤ 16777216) : n ≤ sizeLine := by rw [sizeLine_eq]; exact h
theorem lineL {n : Nat} (h : n < 16777216) : n < sizeLine := by rw [sizeLine_eq]; exact h
theorem itT {A B : Prop} (h : A) : if true = true then A else B := h
theorem itNtt {A B : Prop} (h : B) : if (!(true == true)) = true then A else B := h
theorem itNff {A B : Prop} (h : B) : if (!(false == false)) = true then A else B := h
theorem ittt {A B : Prop} (h : A) : if (true == true) = true then A else B := h
theorem itff {A B : Prop} (h : A) : if (false == false) = true then A else B := h
theorem itNF {A B : Prop} (h : A) : if (!false) = true then A else B := h
theorem itNT {A B : Prop} (h : B) : if (!true) = true then A else B := h
theorem itF {A B : Prop} (h : B) : if false = true then A else B := h
def rIsN : R2 := fun x y H Q => y = .non ∧ Q (.bl (decide (x = .non))) H
def rNotN : R2 := fun x y H Q => y = .non ∧ Q (.bl (!decide (x = .non))) H
theorem isNn (h : Q (.bl true) H) : rIsN .non .non H Q := ⟨rfl, h⟩
theorem isNi {i : Int} (h : Q (.bl false) H) : rIsN (.int i) .non H Q := ⟨rfl, h⟩
theorem isNs {i : Str} (h : Q (.bl false) H) : rIsN (.str i) .non H Q := ⟨rfl, h⟩
theorem isNb {i : Bool} (h : Q (.bl false) H) : rIsN (.bl i) .non H Q := ⟨rfl, h⟩
theorem isNr {i : Addr} (h : Q (.bl false) H) : rIsN (.ref i) .non H Q := ⟨rfl, h⟩
theorem notNn (h : Q (.bl false) H) : rNotN .non .non H Q := ⟨rfl, h⟩
theorem notNi {i : Int} (h : Q (.bl true) H) : rNotN (.int i) .non H Q := ⟨rfl, h⟩
theorem notNs {i : Str} (h : Q (.bl true) H) : rNotN (.str i) .non H Q := ⟨rfl, h⟩
theorem notNb {i : Bool} (h : Q (.bl true) H) : rNotN (.bl i) .non H Q := ⟨rfl, h⟩
theorem notNr {i : Addr} (h : Q (.bl true) H) : rNotN (.ref i) .non H Q := ⟨rfl, h⟩
variable {X : Cx}
theorem op_isNG : OpR X (compareOp .Is) rIsN := op_isN
theorem op_notNG : OpR X (compareOp .IsNot) rNotN := op_notN
theorem cr_lenS : CallR X (.builtin "len") rLenS := call_len_str
theorem cr_lenQ : CallR X (.builtin "len") (rLenQ X.K) := call_len_seq
theorem cr_abs : CallR X (.builtin "abs") rAbs := call_abs
theorem cr_min2 (hc : X.calm = true) : CallR X (.builtin "min") rMin2 := call_min2 hc
theorem cr_max2 (hc : X.calm = true) : CallR X (.builtin "max") rMax2 := call_max2 hc
theorem cr_int1 : CallR X (.type "int") rInt1 := call_int1
theorem op_addS : OpR X (binaryOp .Add) rAddS := op_add_str
end
end Gx
/-! ### further rules of mine -/
namespace Gx
open PySem PySem.Spec PyProof.Rows L2
section
variable {X : Cx} {C g f : Addr} {bmB : List Value} {B newId initId : String} {CX : CXT} {k n : Nat} {fd : FuncData} {ps : List Str} {sp : Sp} {o fe e : Expr} {es : List Expr} {ta tf : TE} {t : TA} {m : Str} {p pos apos : Pos}
/-- X() of an own exception class -/
theorem pmk_own0 {x : Str} (F : ExcBaseFacts B newId initId bmB) (q : PySem.W.excIn X.K C bmB newId = true) (gC : X.mg x = some (.ref C)) (kC : PySem.W.keepIn X.K (.ref C) = true) (r : Raises X (.ref C)) (hg : Gl X x)
    (hdb : (x == ("__debug__" : Str)) = false := by decide) : PMk X (.Call (.Name x p) [] [] pos) (fun _ H Q => Q (.ref C) none H) := by
  intro pins s σ H Q I h
  refine wpAny_Call_Name_kw (ld_glob I hg gC ?_ hdb)
  refine PySem.W.callWith_K0 (first := []) I.kIn kC ?_
  obtain ⟨bm, N, nm, qn, bs, hdct, sn, sub, ab, col, dd, k0, k1, k2, k3, k5, mN, hC, hN, hni, T⟩ := exc_obj I.kIn q
  refine wpAny_call_exc_subT F T hC hN hni (fun h' e hm => ?_) (by show 0 ≤ sizeLine; rw [sizeLine_eq]; omega)
  exact mk_of I hm r h (I.hok.gone hm.new)
/-- o.m(e, ..) where what is raised is wished for at the slots -/
def tMethS (C : Addr) (m : Str) (sp : Sp) (E : L2.St → XK) (ta : TE) (t : TA) : TE := fun σ H Q => ta σ H fun x H1 => ∃ a dx fs, x = .ref a ∧ H1 a = some (.ins C dx fs) ∧ fs.lookup m = none ∧
  t σ H1 fun vs H2 => sp (x :: vs) H2 Q (E σ)
theorem pe_methS {E : L2.St → XK} {pl : Sem Bool} (he : PE X o ta) (c : Cls X.K C) (hm : Meth X.K C m f) (F : FnOk X.prog X.w X.K X.mg X.base CX k f fd ps sp) (hr : Room k X.A) (hb : Binds X.K fd ps []) (hx : ∀ σ, PassesAt CX X σ (E σ)) (ha : PA X (e :: es) t)
    (hst : starEach (e :: es) X.env = (false, eval e X.env) :: starEach es X.env := by rfl) (hpl : (backTo pos (starEach es X.env)).any (·.1) = false := by rfl)
    (ht : eval (.Call (.Attribute o m apos) (e :: es) [] pos) X.env = (do
      let ov ← eval o X.env
      standAt apos.atName
      let (f, first) ← holding [ov] (getMethod ov m pl)
      callWith pos f first (backTo pos (starEach (e :: es) X.env)) (backToKw pos (keywordEach [] X.env))) := by rfl) :
    PE X (.Call (.Attribute o m apos) (e :: es) [] pos) (tMethS C m sp E ta t) := by
  refine ⟨fun pins s σ H Q I h => ?_⟩
  refine PySem.W.methodCall_KW (pl := pl) (thn (he.run pins s σ H _ I h) fun u s1 ⟨x, H1, I1, rx, a, dx, fs, ex, ea, l, q⟩ => ?_) ht
  subst ex
  obtain rfl : u = Value.ref a := rx
  refine getmeth_ok I1 ea c hm l ?_
  refine PySem.W.callWith_K (first := [.ref a]) (h₀ := X.base) I.ok.mod.kin hm.kp (thn (ha.run pos pins s1 σ H1 _ I1 q) fun us s2 ⟨vs, H2, I2, r, q2⟩ => ⟨I2.kIn, ?_⟩) hst hpl
  exact run_fnS (us := .ref a :: us) (vs := .ref a :: vs) F hr hb (hx σ) I2 (.cons rfl r) q2
/-- the instance's call: its node's code -/
theorem code_fnS {E : L2.St → XK} {pins : List (Addr × Obj)} {σ : L2.St} {H : Hp} {s : Shared} {Q : VK} {us : List Value} {vs : List V} (F : FnOk X.prog X.w X.K X.mg X.base CX k f fd ps sp) (hr : Room k X.A) (hb : Binds X.K fd ps []) (hx : PassesAt CX X σ (E σ))
    (I : Inv X pins σ H s) (r : Vals vs us) (h : sp vs H Q (E σ)) : codeAny (model X.prog X.w) X.A (.call (.ref f) ⟨us, []⟩) (wants (EP X pins σ Q) X.xe) s := by
  have hl : us.length = ps.length := by rw [← r.length]; exact F.len _ _ _ _ h
  have b := hb s us I.kIn (by rw [List.append_nil]; exact hl)
  rw [List.append_nil] at b
  refine codeAny_mono (F.run X.A X.stack s H ⟨us, []⟩ us vs Q (E σ) hr I.env0 b r h) fun r s' hq => ?_
  cases r with
  | error e => exact hx pins H s e s' I hq
  | ok fl =>
    cases fl with
    | ret u => exact I.after hq
    | next => exact False.elim hq
    | brk => exact False.elim hq
    | cont => exact False.elim hq
/-- o(e, ..), o an instance of C with __call__ -/
def tCallOS (C : Addr) (sp : Sp) (E : L2.St → XK) (tf : TE) (t : TA) : TE := fun σ H Q => tf σ H fun y H1 => ∃ a, y = V.ref a ∧ t σ H1 fun vs H2 => (∃ dx fs, H2 a = some (.ins C dx fs)) ∧ sp (V.ref a :: vs) H2 Q (E σ)
theorem pe_callOS {E : L2.St → XK} (hf : PE X fe tf) (c : StX.CallO X.K C g) (F : FnOk X.prog X.w X.K X.mg X.base CX k g fd ps sp) (hr : Room k X.A) (hb : Binds X.K fd ps []) (hx : ∀ σ, PassesAt CX X σ (E σ)) (ha : PA X (e :: es) t)
    (ht : eval (.Call fe (e :: es) [] pos) X.env = (do callWith pos (← eval fe X.env) [] (backTo pos (starEach (e :: es) X.env)) (backToKw pos (keywordEach [] X.env))) := by rfl)
    (he : starEach (e :: es) X.env = (false, eval e X.env) :: starEach es X.env := by rfl) (hpl : (backTo pos (starEach es X.env)).any (·.1) = false := by rfl) : PE X (.Call fe (e :: es) [] pos) (tCallOS C sp E tf t) := by
  refine ⟨fun pins s σ H Q I h => ?_⟩
  refine Call_ (thn (hf.run pins s σ H _ I h) fun u s1 ⟨y, H1, I1, ry, a, ey, q⟩ => ?_) ht
  subst ey
  obtain rfl : u = Value.ref a := ry
  refine StX.callO_with (thn (ha.run pos pins s1 σ H1 _ I1 q) fun us s2 ⟨vs, H2, I2, r, ⟨dx, fs, hi⟩, q2⟩ => ?_) he hpl
  obtain ⟨ox, od, J, hd⟩ := StX.insC_at (X := X) I2 (.inr ⟨dx, fs, hi⟩)
  refine ⟨⟨C, ox, od, J, hd⟩, wpAny_call (PySem.W.kco_code I2.kIn J hd c.at_ c.fn c.fi ?_)⟩
  exact code_fnS (us := .ref a :: us) (vs := .ref a :: vs) F hr hb (hx σ) I2 (.cons rfl r) q2
/-- x == y, x an instance of C with its own __eq__ -/
def rEqO (C : Addr) (sp : Sp) (K : PySem.W.Frag) : R2 := fun x y H Q => ∃ a dx fs tb, x = .ref a ∧ H a = some (.ins C dx fs) ∧ TyX K H y tb ∧ PySem.W.notFirst K C tb = true ∧ sp [x, y] H (fun v H' => (∃ b, v = .bl b) ∧ Q v H') E0
theorem looks_ty {K : PySem.W.Frag} {M : Model} {pins : List (Addr × Obj)} {σ : L2.St} {H : Hp} {s : Shared} {x : V} {u t : Value} (I : Inv X pins σ H s) (rx : RelV x u) (ty : TyX X.K H x t) : PySem.W.Looks M s.heap (typeOf u) t := by
  obtain ⟨P, Z, p, _⟩ := kit_of I rx ty
  exact Z.ty _ _ I.kIn p
theorem op_eqO (c : PySem.W.findIn X.K (.ref C) "__eq__" = some (some (.ref f))) (hf : PySem.W.isFn X.K (.ref f) = true) (F : FnOk X.prog X.w X.K X.mg X.base CX0 k f fd ps sp) (hr : Room k X.A) (hb : Binds X.K fd ps []) : OpR X (compareOp .Eq) (rEqO C sp X.K) := by
  intro pins s σ H x y v u Q I rx ry hq
  obtain ⟨a, dx, fs, tb, rfl, ha, ty, nf, q⟩ := hq
  obtain rfl : v = Value.ref a := rx
  show wpAny (model X.prog X.w) X.A (richCompare .Eq (.ref a) u) (EP X pins σ Q) X.xe s
  obtain ⟨mA, J, _⟩ := ins_get I.hok ha
  obtain ⟨od, J, _⟩ := J.look
  obtain ⟨m, hF⟩ := I.fr
  refine PySem.W.cmp_K (op := .Eq) (tb := tb) hr.units0 hF I.ok.mod.kin J (looks_ty (K := X.K) I ry ty) nf c hf ?_
  refine wpAny_mono (run_fn (us := [.ref a, u]) (vs := [.ref a, y]) (ds := []) (dvs := []) F hr hb .nil pass0 I (.cons rfl (.cons ry .nil)) q) (fun z s' hz => ?_) fun _ _ h => h
  obtain ⟨v', H', I', rv, ⟨b, rfl⟩, q'⟩ := hz
  cases rv
  exact ⟨V.bl b, H', I', rfl, q'⟩
/-- isinstance(e, T), e the exception that the suite holds -/
def rIsE' (K : PySem.W.Frag) (D a : Addr) (cls : Value) (d : Option Addr) : List V → Hp → VK → Prop := fun xs H Q => cls = .ref D ∧ d = none ∧ rIsE K D a xs H Q
theorem cr_isE {a D : Addr} {cls : Value} {d : Option Addr} {oe : Obj} {pn : List (Addr × Obj)} (C : ExcC X.K D) (hz : Zc cls d oe) (hf : ∃ vs, oe.data = .fields vs) : CallR (X.suite a ((a, oe) :: pn)) (.builtin "isinstance") (rIsE' X.K D a cls d) := by
  intro pins s σ H xs us Q I r h
  obtain ⟨rfl, rfl, h⟩ := h
  exact call_isE C hz hf pins s σ H xs us Q I r h
theorem isi {K : PySem.W.Frag} {H : Hp} {Q : VK} {x c : V} {t u : Value} {b : Bool} (hc : ClsV c u) (ht : TyX K H x t) (e : PySem.W.kitOne K t u = some b) (h : Q (.bl b) H) : rIsi K [x, c] H Q := ⟨x, c, t, u, b, rfl, hc, ht, e, h⟩
theorem tyX_L {K : PySem.W.Frag} {H : Hp} {a : Addr} {xs : List V} (h : SqL K H a xs) : TyX K H (.ref a) (.type "list") := by
  rcases h with (h | ⟨o, h⟩) | ⟨o, its, n, h, hc, _⟩
  · exact .base (.lst h)
  · exact .base (.frz h)
  · exact .kList h hc
theorem tyX_T {K : PySem.W.Frag} {H : Hp} {a : Addr} {xs : List V} (h : SqT K H a xs) : TyX K H (.ref a) (.type "tuple") := by
  rcases h with (h | ⟨o, h⟩) | ⟨o, its, n, h, hc, _⟩
  · exact .base (.tup h)
  · exact .fTuple h
  · exact .kTuple h hc
theorem isi_ni {K : PySem.W.Frag} {H : Hp} {Q : VK} (h : Q (.bl false) H) : rIsi K [.non, .ty "int"] H Q := isi (.ty _) (.base .non) (kit_ty (by decide +kernel)) h
theorem isi_nb {K : PySem.W.Frag} {H : Hp} {Q : VK} (h : Q (.bl false) H) : rIsi K [.non, .ty "bool"] H Q := isi (.ty _) (.base .non) (kit_ty (by decide +kernel)) h
theorem isi_ns {K : PySem.W.Frag} {H : Hp} {Q : VK} (h : Q (.bl false) H) : rIsi K [.non, .ty "str"] H Q := isi (.ty _) (.base .non) (kit_ty (by decide +kernel)) h
theorem isi_nl {K : PySem.W.Frag} {H : Hp} {Q : VK} (h : Q (.bl false) H) : rIsi K [.non, .ty "list"] H Q := isi (.ty _) (.base .non) (kit_ty (by decide +kernel)) h
theorem isi_nt {K : PySem.W.Frag} {H : Hp} {Q : VK} (h : Q (.bl false) H) : rIsi K [.non, .ty "tuple"] H Q := isi (.ty _) (.base .non) (kit_ty (by decide +kernel)) h
theorem isi_ii {K : PySem.W.Frag} {H : Hp} {Q : VK} {i : Int} (h : Q (.bl true) H) : rIsi K [.int i, .ty "int"] H Q := isi (.ty _) (.base (.int i)) (kit_ty (by decide +kernel)) h
theorem isi_ib {K : PySem.W.Frag} {H : Hp} {Q : VK} {i : Int} (h : Q (.bl false) H) : rIsi K [.int i, .ty "bool"] H Q := isi (.ty _) (.base (.int i)) (kit_ty (by decide +kernel)) h
theorem isi_is {K : PySem.W.Frag} {H : Hp} {Q : VK} {i : Int} (h : Q (.bl false) H) : rIsi K [.int i, .ty "str"] H Q := isi (.ty _) (.base (.int i)) (kit_ty (by decide +kernel)) h
theorem isi_il {K : PySem.W.Frag} {H : Hp} {Q : VK} {i : Int} (h : Q (.bl false) H) : rIsi K [.int i, .ty "list"] H Q := isi (.ty _) (.base (.int i)) (kit_ty (by decide +kernel)) h
theorem isi_it {K : PySem.W.Frag} {H : Hp} {Q : VK} {i : Int} (h : Q (.bl false) H) : rIsi K [.int i, .ty "tuple"] H Q := isi (.ty _) (.base (.int i)) (kit_ty (by decide +kernel)) h
theorem isi_si {K : PySem.W.Frag} {H : Hp} {Q : VK} {z : Str} (h : Q (.bl false) H) : rIsi K [.str z, .ty "int"] H Q := isi (.ty _) (.base (.str z)) (kit_ty (by decide +kernel)) h
theorem isi_sb {K : PySem.W.Frag} {H : Hp} {Q : VK} {z : Str} (h : Q (.bl false) H) : rIsi K [.str z, .ty "bool"] H Q := isi (.ty _) (.base (.str z)) (kit_ty (by decide +kernel)) h
theorem isi_ss {K : PySem.W.Frag} {H : Hp} {Q : VK} {z : Str} (h : Q (.bl true) H) : rIsi K [.str z, .ty "str"] H Q := isi (.ty _) (.base (.str z)) (kit_ty (by decide +kernel)) h
theorem isi_sl {K : PySem.W.Frag} {H : Hp} {Q : VK} {z : Str} (h : Q (.bl false) H) : rIsi K [.str z, .ty "list"] H Q := isi (.ty _) (.base (.str z)) (kit_ty (by decide +kernel)) h
theorem isi_st {K : PySem.W.Frag} {H : Hp} {Q : VK} {z : Str} (h : Q (.bl false) H) : rIsi K [.str z, .ty "tuple"] H Q := isi (.ty _) (.base (.str z)) (kit_ty (by decide +kernel)) h
theorem isi_bi {K : PySem.W.Frag} {H : Hp} {Q : VK} {z : Bool} (h : Q (.bl true) H) : rIsi K [.bl z, .ty "int"] H Q := isi (.ty _) (.base (.bl z)) (kit_ty (by decide +kernel)) h
theorem isi_bb {K : PySem.W.Frag} {H : Hp} {Q : VK} {z : Bool} (h : Q (.bl true) H) : rIsi K [.bl z, .ty "bool"] H Q := isi (.ty _) (.base (.bl z)) (kit_ty (by decide +kernel)) h
theorem isi_bs {K : PySem.W.Frag} {H : Hp} {Q : VK} {z : Bool} (h : Q (.bl false) H) : rIsi K [.bl z, .ty "str"] H Q := isi (.ty _) (.base (.bl z)) (kit_ty (by decide +kernel)) h
theorem isi_bl {K : PySem.W.Frag} {H : Hp} {Q : VK} {z : Bool} (h : Q (.bl false) H) : rIsi K [.bl z, .ty "list"] H Q := isi (.ty _) (.base (.bl z)) (kit_ty (by decide +kernel)) h
theorem isi_bt {K : PySem.W.Frag} {H : Hp} {Q : VK} {z : Bool} (h : Q (.bl false) H) : rIsi K [.bl z, .ty "tuple"] H Q := isi (.ty _) (.base (.bl z)) (kit_ty (by decide +kernel)) h
theorem isi_Li {K : PySem.W.Frag} {H : Hp} {Q : VK} {a : Addr} {xs : List V} (hs : SqL K H a xs) (h : Q (.bl false) H) : rIsi K [.ref a, .ty "int"] H Q := isi (.ty _) (tyX_L hs) (kit_ty (by decide +kernel)) h
theorem isi_Lb {K : PySem.W.Frag} {H : Hp} {Q : VK} {a : Addr} {xs : List V} (hs : SqL K H a xs) (h : Q (.bl false) H) : rIsi K [.ref a, .ty "bool"] H Q := isi (.ty _) (tyX_L hs) (kit_ty (by decide +kernel)) h
theorem isi_Ls {K : PySem.W.Frag} {H : Hp} {Q : VK} {a : Addr} {xs : List V} (hs : SqL K H a xs) (h : Q (.bl false) H) : rIsi K [.ref a, .ty "str"] H Q := isi (.ty _) (tyX_L hs) (kit_ty (by decide +kernel)) h
theorem isi_Ll {K : PySem.W.Frag} {H : Hp} {Q : VK} {a : Addr} {xs : List V} (hs : SqL K H a xs) (h : Q (.bl true) H) : rIsi K [.ref a, .ty "list"] H Q := isi (.ty _) (tyX_L hs) (kit_ty (by decide +kernel)) h
theorem isi_Lt {K : PySem.W.Frag} {H : Hp} {Q : VK} {a : Addr} {xs : List V} (hs : SqL K H a xs) (h : Q (.bl false) H) : rIsi K [.ref a, .ty "tuple"] H Q := isi (.ty _) (tyX_L hs) (kit_ty (by decide +kernel)) h
theorem isi_Ti {K : PySem.W.Frag} {H : Hp} {Q : VK} {a : Addr} {xs : List V} (hs : SqT K H a xs) (h : Q (.bl false) H) : rIsi K [.ref a, .ty "int"] H Q := isi (.ty _) (tyX_T hs) (kit_ty (by decide +kernel)) h
theorem isi_Tb {K : PySem.W.Frag} {H : Hp} {Q : VK} {a : Addr} {xs : List V} (hs : SqT K H a xs) (h : Q (.bl false) H) : rIsi K [.ref a, .ty "bool"] H Q := isi (.ty _) (tyX_T hs) (kit_ty (by decide +kernel)) h
theorem isi_Ts {K : PySem.W.Frag} {H : Hp} {Q : VK} {a : Addr} {xs : List V} (hs : SqT K H a xs) (h : Q (.bl false) H) : rIsi K [.ref a, .ty "str"] H Q := isi (.ty _) (tyX_T hs) (kit_ty (by decide +kernel)) h
theorem isi_Tl {K : PySem.W.Frag} {H : Hp} {Q : VK} {a : Addr} {xs : List V} (hs : SqT K H a xs) (h : Q (.bl false) H) : rIsi K [.ref a, .ty "list"] H Q := isi (.ty _) (tyX_T hs) (kit_ty (by decide +kernel)) h
theorem isi_Tt {K : PySem.W.Frag} {H : Hp} {Q : VK} {a : Addr} {xs : List V} (hs : SqT K H a xs) (h : Q (.bl true) H) : rIsi K [.ref a, .ty "tuple"] H Q := isi (.ty _) (tyX_T hs) (kit_ty (by decide +kernel)) h
/-- fields -/
theorem sfld {K : PySem.W.Frag} {H : Hp} {D : Ends} {σ : L2.St} {ta tv : TE} {f : Str} (h : tv σ H fun y H1 => ta σ H1 fun x H2 => ∃ a C dx fs, x = .ref a ∧ H2 a = some (.ins C dx fs) ∧ Cls K C ∧ NoAttr K C f ∧ fs.length < 1000 ∧ D.nx σ (upd H2 a (.ins C dx (putF f y fs)))) : sFld K ta tv f D σ H := h
theorem meth {H : Hp} {Q : VK} {σ : L2.St} {ta : TE} {C : Addr} {m : Str} {sp : Sp} {E : XK} {t : TA} (h : ta σ H fun x H1 => ∃ a dx fs, x = .ref a ∧ H1 a = some (.ins C dx fs) ∧ fs.lookup m = none ∧ t σ H1 fun vs H2 => CallK sp [] E (x :: vs) H2 Q) : tMeth C m sp [] E ta t σ H Q := h
theorem make {H : Hp} {Q : VK} {σ : L2.St} {C : Addr} {sp : Sp} {E : XK} {t : TA} (h : t σ H fun vs H1 => ∀ x dx, H1 x = none → H1 dx = none → dx ≠ x → sp (.ref x :: vs) (upd (upd H1 dx (.own x)) x (.ins C dx [])) (fun v H2 => v = .non ∧ Q (.ref x) H2) E) : tMake C sp [] E t σ H Q := by
  unfold tMake
  have e : ∀ vs : List V, vs ++ [] = vs := fun vs => List.append_nil vs
  simp only [e]
  exact h
theorem fld {K : PySem.W.Frag} {H : Hp} {Q : VK} {σ : L2.St} {ta : TE} {f : Str} (h : ta σ H fun x H1 => ∃ a C dx fs v, x = .ref a ∧ H1 a = some (.ins C dx fs) ∧ Cls K C ∧ NoAttr K C f ∧ fs.lookup f = some v ∧ Q v H1) : tFld K ta f σ H Q := h
theorem passLS {X : Cx} : ∀ σ, PassesAt (L2.CX X.prog X.w) X σ E0 := fun σ pins H s e s' I c => passL pins σ H s e s' I c
theorem prop {H : Hp} {Q : VK} {σ : L2.St} {ta : TE} {C : Addr} {sp : Sp} {E : XK} (h : ta σ H fun x H1 => ∃ a dx fs, x = .ref a ∧ H1 a = some (.ins C dx fs) ∧ sp [.ref a] H1 Q E) : tProp C sp [] E ta σ H Q := h
theorem callO {H : Hp} {Q : VK} {σ : L2.St} {tf : TE} {t : TA} {C : Addr} {sp : Sp} {E : L2.St → XK} (h : tf σ H fun y H1 => ∃ a, y = V.ref a ∧ t σ H1 fun vs H2 => (∃ dx fs, H2 a = some (.ins C dx fs)) ∧ sp (V.ref a :: vs) H2 Q (E σ)) : tCallOS C sp E tf t σ H Q := h
theorem methS {H : Hp} {Q : VK} {σ : L2.St} {ta : TE} {C : Addr} {m : Str} {sp : Sp} {E : L2.St → XK} {t : TA} (h : ta σ H fun x H1 => ∃ a dx fs, x = .ref a ∧ H1 a = some (.ins C dx fs) ∧ fs.lookup m = none ∧ t σ H1 fun vs H2 => sp (x :: vs) H2 Q (E σ)) : tMethS C m sp E ta t σ H Q := h
theorem callS {sp : Sp} {E : L2.St → XK} {t : TA} {σ : L2.St} {H : Hp} {Q : VK} (h : t σ H fun vs H1 => sp vs H1 Q (E σ)) : tCallS sp E t σ H Q := h
end
end Gx
/-! ### texts as lists of code points -/
namespace Gx
open PySem PySem.Spec PyProof.Rows L2 TL
def mkS (l : List Nat) : Str := ⟨l.toArray⟩
theorem mkS_len (l : List Nat) : (mkS l).length = l.length := by simp [mkS, Str.length]
theorem mkS_tl (l : List Nat) : (mkS l).cps.toList = l := rfl
theorem mkS_app (a b : List Nat) : mkS a ++ mkS b = mkS (a ++ b) := by
  refine ext_tl ?_
  rw [tl_append]
  rfl
theorem mkS_inj {a b : List Nat} : mkS a = mkS b ↔ a = b := ⟨fun h => by
  have := congrArg (fun x => x.cps.toList) h
  exact this, fun h => by rw [h]⟩
theorem mkS_of (x : Str) : x = mkS x.cps.toList := rfl
theorem ofS (s : String) : Str.ofString s = mkS (s.toList.map Char.toNat) := ext_tl (tl_ofString s)
theorem sIx_int (n d : Nat) {i : Int} (h : 0 ≤ i) : HT.sIx n d (some i) = min i.toNat n := by
  have e : i = ((i.toNat : Nat) : Int) := by omega
  rw [e, HT.sIx_nat, Int.toNat_natCast]
theorem cut_A (l : List Nat) {j : Int} (h : 0 ≤ j) : cutS (mkS l) none (some j) = mkS (l.take j.toNat) := by
  show mkS (((mkS l).cps.toList.drop _).take _) = _
  rw [mkS_tl, mkS_len, HT.sIx_none, sIx_int _ _ h, List.drop_zero, Nat.sub_zero, ← List.take_eq_take_min]
theorem cut_B (l : List Nat) {i : Int} (h : 0 ≤ i) : cutS (mkS l) (some i) none = mkS (l.drop i.toNat) := by
  show mkS (((mkS l).cps.toList.drop _).take _) = _
  rw [mkS_tl, mkS_len, HT.sIx_none, sIx_int _ _ h]
  congr 1
  rw [List.take_of_length_le (by rw [List.length_drop]; omega)]
  by_cases c : i.toNat ≤ l.length
  · rw [Nat.min_eq_left c]
  · rw [Nat.min_eq_right (by omega), List.drop_length, List.drop_eq_nil_of_le (by omega)]
theorem cut_C (l : List Nat) {i j : Int} (h : 0 ≤ i) (h' : 0 ≤ j) : cutS (mkS l) (some i) (some j) = mkS ((l.take j.toNat).drop i.toNat) := by
  show mkS (((mkS l).cps.toList.drop _).take _) = _
  rw [mkS_tl, mkS_len, sIx_int _ _ h, sIx_int _ _ h']
  congr 1
  rw [List.drop_take]
  by_cases c : i.toNat ≤ l.length
  · rw [Nat.min_eq_left c]
    by_cases d : j.toNat ≤ l.length
    · rw [Nat.min_eq_left d]
    · rw [Nat.min_eq_right (by omega), List.take_of_length_le (by rw [List.length_drop]; omega), List.take_of_length_le (by rw [List.length_drop]; omega)]
  · rw [Nat.min_eq_right (a := i.toNat) (by omega), List.drop_length, List.drop_eq_nil_of_le (by omega)]
    simp
section
variable {σ : L2.St} {H : Hp} {Q : VK} {te to : TE} {K : PySem.W.Frag}
theorem conE {x y : Str} (e : x = y) (h : Q (.str y) H) : tC (.str x) σ H Q := by rw [e]; exact h
theorem sA {l : List Nat} {j : Int} (h0 : 0 ≤ j) (c : l.length ≤ 16777216) (h : Q (.str (mkS (l.take j.toNat))) H) : rSlS (.str (mkS l)) none (some j) H Q := ⟨_, rfl, by rw [mkS_len, sizeLine_eq]; exact c, by rw [cut_A l h0]; exact h⟩
theorem sB {l : List Nat} {j : Int} (h0 : 0 ≤ j) (c : l.length ≤ 16777216) (h : Q (.str (mkS (l.drop j.toNat))) H) : rSlS (.str (mkS l)) (some j) none H Q := ⟨_, rfl, by rw [mkS_len, sizeLine_eq]; exact c, by rw [cut_B l h0]; exact h⟩
theorem sC {l : List Nat} {i j : Int} (h0 : 0 ≤ i) (h1 : 0 ≤ j) (c : l.length ≤ 16777216) (h : Q (.str (mkS ((l.take j.toNat).drop i.toNat))) H) : rSlS (.str (mkS l)) (some i) (some j) H Q := ⟨_, rfl, by rw [mkS_len, sizeLine_eq]; exact c, by rw [cut_C l h0 h1]; exact h⟩
theorem addM {a b : List Nat} (c : a.length + b.length ≤ 16777216) (h : Q (.str (mkS (a ++ b))) H) : rAddS (.str (mkS a)) (.str (mkS b)) H Q := ⟨_, _, rfl, rfl, by rw [mkS_len, mkS_len, sizeLine_eq]; exact c, by rw [mkS_app]; exact h⟩
theorem lenM {l : List Nat} (c : l.length ≤ 16777216) (h : Q (.int l.length) H) : rLenS [.str (mkS l)] H Q := ⟨_, rfl, by rw [mkS_len, sizeLine_eq]; exact c, by rw [mkS_len]; exact h⟩
theorem eqM {a b : List Nat} (h : Q (.bl (decide (a = b))) H) : rEq (.str (mkS a)) (.str (mkS b)) H Q := ⟨rfl, by
  rw [show decide (V.str (mkS a) = V.str (mkS b)) = decide (a = b) from by simp [mkS_inj]]
  exact h⟩
theorem neM {a b : List Nat} (h : Q (.bl (!decide (a = b))) H) : rNe (.str (mkS a)) (.str (mkS b)) H Q := ⟨rfl, by
  rw [show decide (V.str (mkS a) = V.str (mkS b)) = decide (a = b) from by simp [mkS_inj]]
  exact h⟩
theorem ixM {l : List Nat} {i : Int} (h0 : 0 ≤ i) (h1 : i < l.length) (c : l.length ≤ 16777216) (h : Q (.str (mkS [l.getD i.toNat 0])) H) : rIxS (.str (mkS l)) (.int i) H Q := by
  have e : i = ((i.toNat : Nat) : Int) := by omega
  have h2 : i.toNat < l.length := by omega
  refine ⟨_, i, l.getD i.toNat 0, rfl, rfl, by rw [mkS_len, sizeLine_eq]; exact c, ?_, h⟩
  rw [mkS_tl, e]
  refine atI_nat ?_
  rw [Int.toNat_natCast, List.getElem?_eq_getElem h2, List.getD_eq_getElem?_getD, List.getElem?_eq_getElem h2]
  rfl
/-- sep.join(xs) -/
def rJoin (K : PySem.W.Frag) : V → List V → Hp → VK → Prop := fun x xs H Q => ∃ a p, ∃ ys : List Str, x = .str a ∧ xs = [.ref p] ∧ (SqL K H p (ys.map V.str) ∨ SqT K H p (ys.map V.str)) ∧
      (ys.map (·.length)).sum + ys.length * a.length ≤ 16777216 ∧ Q (.str (Txt.join a ys)) H
theorem m1 {r : V → List V → Hp → VK → Prop} (h : to σ H fun x H1 => (∃ a, x = .str a) ∧ te σ H1 fun y H2 => r x [y] H2 Q) : tM1 r to te σ H Q := h
theorem isS {z : Str} {A : Prop} (h : A) : (∃ a, V.str z = .str a) ∧ A := ⟨⟨z, rfl⟩, h⟩
theorem joinL_nil : ∀ ls : List (List Nat), joinL [] ls = ls.flatten
  | [] => rfl
  | [p] => by simp [joinL]
  | p :: q :: r => by
    show p ++ ([] ++ joinL [] (q :: r)) = _
    rw [joinL_nil (q :: r)]
    rfl
theorem sum_len : ∀ ls : List (List Nat), ((ls.map mkS).map (·.length)).sum = ls.flatten.length
  | [] => rfl
  | p :: r => by
    rw [List.map_cons, List.map_cons, List.sum_cons, sum_len r, mkS_len, List.flatten_cons, List.length_append]
/-- ''.join(xs) -/
theorem join0 {ls : List (List Nat)} {p : Addr} (e : SqL K H p ((ls.map mkS).map V.str)) (c : ls.flatten.length ≤ 16777216) (h : Q (.str (mkS ls.flatten)) H) : rJoin K (.str (mkS [])) [.ref p] H Q := by
  refine ⟨mkS [], p, ls.map mkS, rfl, rfl, .inl e, ?_, ?_⟩
  · rw [sum_len, mkS_len]
    simpa using c
  · rw [show Txt.join (mkS []) (ls.map mkS) = mkS ls.flatten from ?_]
    · exact h
    · refine ext_tl ?_
      rw [join_eq, tl_join, List.map_map]
      show joinL [] (ls.map (fun l => l)) = ls.flatten
      rw [List.map_id', joinL_nil]
end
section
variable {X : Cx} {o e : Expr} {to te : TE} {pos apos : Pos}
theorem pe_joinG (ho : PE X o to) (he : PE X e te) (hs : starEach [e] X.env = [(false, eval e X.env)] := by rfl) (hbase : attributeBase o "join" X.env (eval o X.env) = eval o X.env := by rfl) (hline : (apos.endLine == pos.line) = true := by rfl) :
    PE X (.Call (.Attribute o "join" apos) [e] [] pos) (tM1 (rJoin X.K) to te) := pe_join ho he hs hbase hline
end
end Gx
/-! ### nested data -/
namespace Gx
open PySem PySem.Spec PyProof.Rows L2
section
variable {K : PySem.W.Frag} {H H' : Hp}
theorem _root_.L2.Same.seqT {a : Addr} {xs : List V} (e : Same H H') (h : SqT K H a xs) : SqT K H' a xs := by
  rcases h with (h | ⟨o, h⟩) | h
  · exact .inl (.inl (e _ _ h))
  · exact .inl (.inr ⟨o, e _ _ h⟩)
  · exact .inr h
mutual
theorem dp_same (e : Same H H') : ∀ (d : PyData) (v : V), Dp K H v d → Dp K H' v d
  | .none, _, h => by cases h; exact .non
  | .bool _, _, h => by cases h; exact .bl _
  | .int _, _, h => by cases h; exact .int _
  | .str _, _, h => by cases h; exact .str _
  | .list ds, _, h => by
    cases h with
    | lst hs ha => exact .lst (e.seq hs) (dpAll_same e ds _ ha)
  | .tuple ds, _, h => by
    cases h with
    | tup hs ha => exact .tup (e.seqT hs) (dpAll_same e ds _ ha)
  | .dict _, _, h => by cases h
theorem dpAll_same (e : Same H H') : ∀ (ds : List PyData) (vs : List V), DpAll K H vs ds → DpAll K H' vs ds
  | [], _, h => by cases h; exact .nil
  | d :: ds, _, h => by
    cases h with
    | cons h1 h2 => exact .cons (dp_same e d _ h1) (dpAll_same e ds _ h2)
end
mutual
/-- no list within -/
def noL : PyData → Bool
  | .none | .bool _ | .int _ | .str _ => true
  | .tuple xs => noLs xs
  | .list _ | .dict _ => false
def noLs : List PyData → Bool
  | [] => true
  | x :: xs => noL x && noLs xs
end
/-- all tuples stay -/
def Tups (K : PySem.W.Frag) (H H' : Hp) : Prop := ∀ a xs, SqT K H a xs → SqT K H' a xs
theorem Tups.of (e : Same H H') : Tups K H H' := fun _ _ h => e.seqT h
theorem Tups.upd {p : Addr} {xs ys : List V} (h : H p = some (.lst xs)) : Tups K H (upd H p (.lst ys)) := fun a us q => by
  rcases q with (q | ⟨o, q⟩) | q
  · exact .inl (.inl (by rw [upd_ne (ne_of q h (by intro z; cases z))]; exact q))
  · exact .inl (.inr ⟨o, by rw [upd_ne (ne_of q h (by intro z; cases z))]; exact q⟩)
  · exact .inr q
mutual
theorem dp_tups (e : Tups K H H') : ∀ (d : PyData) (v : V), noL d = true → Dp K H v d → Dp K H' v d
  | .none, _, _, h => by cases h; exact .non
  | .bool _, _, _, h => by cases h; exact .bl _
  | .int _, _, _, h => by cases h; exact .int _
  | .str _, _, _, h => by cases h; exact .str _
  | .list ds, _, n, h => by simp [noL] at n
  | .tuple ds, _, n, h => by
    cases h with
    | tup hs ha => exact .tup (e _ _ hs) (dpAll_tups e ds _ (by simpa [noL] using n) ha)
  | .dict _, _, _, h => by cases h
theorem dpAll_tups (e : Tups K H H') : ∀ (ds : List PyData) (vs : List V), noLs ds = true → DpAll K H vs ds → DpAll K H' vs ds
  | [], _, _, h => by cases h; exact .nil
  | d :: ds, _, n, h => by
    have n' : noL d = true ∧ noLs ds = true := by simpa [noLs] using n
    cases h with
    | cons h1 h2 => exact .cons (dp_tups e d _ n'.1 h1) (dpAll_tups e ds _ n'.2 h2)
end
theorem dpAll_len : ∀ {vs : List V} {ds : List PyData}, DpAll K H vs ds → vs.length = ds.length
  | _, _, .nil => rfl
  | _, _, .cons _ t => by rw [List.length_cons, List.length_cons, dpAll_len t]
theorem dpAll_app : ∀ {vs ws : List V} {ds es : List PyData}, DpAll K H vs ds → DpAll K H ws es → DpAll K H (vs ++ ws) (ds ++ es)
  | _, _, _, _, .nil, h => h
  | _, _, _, _, .cons a t, h => .cons a (dpAll_app t h)
theorem dpAll_get : ∀ {vs : List V} {ds : List PyData} {i : Nat} {v : V}, DpAll K H vs ds → vs[i]? = some v → ∃ d, ds[i]? = some d ∧ Dp K H v d
  | _, _, _, _, .nil, h => by simp at h
  | _, _, 0, _, .cons a t, h => by
    simp at h
    subst h
    exact ⟨_, rfl, a⟩
  | _, _, i + 1, _, .cons a t, h => dpAll_get (i := i) t (by simpa using h)
theorem dpAll_ints : ∀ (ns : List Int), DpAll K H (ns.map V.int) (ns.map PyData.int)
  | [] => .nil
  | n :: r => .cons (.int n) (dpAll_ints r)
end
mutual
/-- what _law_kind tells of a datum -/
def kindD : PyData → PyData
  | .none => .tuple [.str (mkS [110, 111, 110, 101])]
  | .bool b => .tuple [.str (mkS [116, 114, 117, 116, 104]), .str (Str.ofString (if b then "True" else "False"))]
  | .int i => .tuple [.str (mkS [110, 117, 109, 98, 101, 114]), .int i]
  | .str x => .tuple [.str (mkS [116, 101, 120, 116]), .str x]
  | .list xs => .tuple (.str (mkS [108, 105, 115, 116]) :: kindAll xs)
  | .tuple xs => .tuple (.str (mkS [116, 117, 112, 108, 101]) :: kindAll xs)
  | .dict _ => .tuple [.str (mkS [111, 116, 104, 101, 114])]
def kindAll : List PyData → List PyData
  | [] => []
  | x :: xs => kindD x :: kindAll xs
end
theorem kindAll_app : ∀ xs ys : List PyData, kindAll (xs ++ ys) = kindAll xs ++ kindAll ys
  | [], _ => by simp [kindAll]
  | x :: xs, ys => by rw [List.cons_append, kindAll, kindAll, kindAll_app xs ys, List.cons_append]
theorem kindAll_len : ∀ xs : List PyData, (kindAll xs).length = xs.length
  | [] => rfl
  | x :: xs => by rw [kindAll, List.length_cons, List.length_cons, kindAll_len xs]
theorem kindAll_get : ∀ (xs : List PyData) (i : Nat), (kindAll xs)[i]? = xs[i]?.map kindD
  | [], i => by simp [kindAll]
  | x :: xs, 0 => by simp [kindAll]
  | x :: xs, i + 1 => by
    rw [kindAll]
    simpa using kindAll_get xs i
mutual
theorem noL_kind : ∀ d : PyData, noL (kindD d) = true
  | .none => rfl
  | .bool _ => rfl
  | .int _ => rfl
  | .str _ => rfl
  | .list xs => by simp only [kindD, noL, noLs, Bool.true_and]; exact noLs_kind xs
  | .tuple xs => by simp only [kindD, noL, noLs, Bool.true_and]; exact noLs_kind xs
  | .dict _ => rfl
theorem noLs_kind : ∀ ds : List PyData, noLs (kindAll ds) = true
  | [] => rfl
  | d :: ds => by rw [kindAll, noLs, noL_kind d, noLs_kind ds]; rfl
end
theorem noLs_take : ∀ (ds : List PyData) (i : Nat), noLs ds = true → noLs (ds.take i) = true
  | [], i, _ => by simp [noLs]
  | d :: ds, 0, _ => rfl
  | d :: ds, i + 1, h => by
    have h' : noL d = true ∧ noLs ds = true := by simpa [noLs] using h
    rw [List.take_succ_cons, noLs, h'.1, noLs_take ds i h'.2]
    rfl
mutual
/-- data that can be told and compared: texts of code points, no dict, lists of at most 100000 -/
def okD : PyData → Bool
  | .none | .bool _ | .int _ => true
  | .str x => PyData.strOk x
  | .list xs | .tuple xs => decide (xs.length ≤ 100000) && okDs xs
  | .dict _ => false
def okDs : List PyData → Bool
  | [] => true
  | x :: xs => okD x && okDs xs
end
theorem okDs_get : ∀ {xs : List PyData} {i : Nat} {d : PyData}, okDs xs = true → xs[i]? = some d → okD d = true
  | [], _, _, _, h => by simp at h
  | x :: xs, 0, _, k, h => by
    have k' : okD x = true ∧ okDs xs = true := by simpa [okDs] using k
    simp at h
    subst h
    exact k'.1
  | x :: xs, i + 1, _, k, h => by
    have k' : okD x = true ∧ okDs xs = true := by simpa [okDs] using k
    exact okDs_get (i := i) k'.2 (by simpa using h)
theorem depth_get : ∀ {xs : List PyData} {i : Nat} {d : PyData}, xs[i]? = some d → PyData.depth d ≤ PyData.depthAll xs
  | [], _, _, h => by simp at h
  | x :: xs, 0, _, h => by
    simp at h
    subst h
    exact Nat.le_max_left _ _
  | x :: xs, i + 1, d, h => by
    have := depth_get (xs := xs) (i := i) (d := d) (by simpa using h)
    exact Nat.le_trans this (Nat.le_max_right _ _)
mutual
theorem can_kind : ∀ d : PyData, okD d = true → PyData.canLay0 (kindD d) = true
  | .none, _ => by simp [kindD, PyData.canLay0, PyData.canLayAll0, PyData.strOk, mkS]
  | .bool b, _ => by cases b <;> (simp [kindD, PyData.canLay0, PyData.canLayAll0, PyData.strOk, mkS]; decide +kernel)
  | .int i, _ => by simp [kindD, PyData.canLay0, PyData.canLayAll0, PyData.strOk, mkS]
  | .str x, h => by
    have h' : PyData.strOk x = true := by simpa [okD] using h
    simp [kindD, PyData.canLay0, PyData.canLayAll0, h']
    simp [PyData.strOk, mkS]
  | .list xs, h => by
    have h' : xs.length ≤ 100000 ∧ okDs xs = true := by simpa [okD] using h
    simp only [kindD, PyData.canLay0, PyData.canLayAll0, can_kinds xs h'.2]
    simp [PyData.strOk, mkS]
  | .tuple xs, h => by
    have h' : xs.length ≤ 100000 ∧ okDs xs = true := by simpa [okD] using h
    simp only [kindD, PyData.canLay0, PyData.canLayAll0, can_kinds xs h'.2]
    simp [PyData.strOk, mkS]
  | .dict _, h => by simp [okD] at h
theorem can_kinds : ∀ ds : List PyData, okDs ds = true → PyData.canLayAll0 (kindAll ds) = true
  | [], _ => rfl
  | d :: ds, h => by
    have h' : okD d = true ∧ okDs ds = true := by simpa [okDs] using h
    simp only [kindAll, PyData.canLayAll0, can_kind d h'.1, can_kinds ds h'.2, Bool.and_self]
end
mutual
theorem depth_kind : ∀ d : PyData, PyData.depth (kindD d) ≤ PyData.depth d + 1
  | .none => by simp [kindD, PyData.depth, PyData.depthAll]
  | .bool _ => by simp [kindD, PyData.depth, PyData.depthAll]
  | .int _ => by simp [kindD, PyData.depth, PyData.depthAll]
  | .str _ => by simp [kindD, PyData.depth, PyData.depthAll]
  | .list xs => by
    have := depth_kinds xs
    simp only [kindD, PyData.depth, PyData.depthAll]
    omega
  | .tuple xs => by
    have := depth_kinds xs
    simp only [kindD, PyData.depth, PyData.depthAll]
    omega
  | .dict _ => by simp [kindD, PyData.depth, PyData.depthAll]
theorem depth_kinds : ∀ ds : List PyData, PyData.depthAll (kindAll ds) ≤ PyData.depthAll ds + 1
  | [] => by simp [kindAll, PyData.depthAll]
  | d :: ds => by
    have h1 := depth_kind d
    have h2 := depth_kinds ds
    simp only [kindAll, PyData.depthAll]
    omega
end
theorem shaped_kind {d : PyData} (h : okD d = true) (n : PyData.depth d ≤ 60) : SeqAt.shaped (kindD d) = true := by
  unfold SeqAt.shaped
  rw [can_kind d h, Bool.true_and]
  have := depth_kind d
  exact decide_eq_true (by omega)
theorem eqv_kind {d : PyData} (h : okD d = true) : PyData.eqv (kindD d) (kindD d) = true := SeqAt.eqv_refl _ (can_kind d h)
def rStrB : List V → Hp → VK → Prop := fun xs H Q => ∃ b, xs = [.bl b] ∧ Q (.str (Str.ofString (if b then "True" else "False"))) H
theorem cr_strB {X : Cx} : CallR X (.type "str") rStrB := by
  intro pins s σ H xs us Q I r h
  obtain ⟨b, rfl, q⟩ := h
  obtain ⟨u, rfl, r1⟩ := vals1 r
  cases r1
  refine PySem.P.str_of_bool ⟨.str _, H, I.tok _, ⟨_, rfl⟩, ?_⟩
  cases b <;> exact q
theorem strB {H : Hp} {Q : VK} {b : Bool} (h : Q (.str (Str.ofString (if b then "True" else "False"))) H) : rStrB [.bl b] H Q := ⟨b, rfl, h⟩
/-- tuple(a list) -/
def rTupL (K : PySem.W.Frag) : List V → Hp → VK → Prop := fun xs H Q => ∃ p ys, xs = [.ref p] ∧ ((SqL K H p ys ∧ ∀ l, H l = none → Q (.ref l) (upd H l (.tup ys))) ∨ (SqT K H p ys ∧ Q (.ref p) H))
theorem cr_tupL {X : Cx} : CallR X (.type "tuple") (rTupL X.K) := call_tuple_of
theorem tupL {K : PySem.W.Frag} {H : Hp} {Q : VK} {p : Addr} {ys : List V} (h : SqL K H p ys) (q : ∀ l, H l = none → Q (.ref l) (upd H l (.tup ys))) : rTupL K [.ref p] H Q := ⟨p, ys, rfl, .inl ⟨h, q⟩⟩
theorem tupT {K : PySem.W.Frag} {H : Hp} {Q : VK} {p : Addr} {ys : List V} (h : SqT K H p ys) (q : Q (.ref p) H) : rTupL K [.ref p] H Q := ⟨p, ys, rfl, .inr ⟨h, q⟩⟩
theorem catT {K : PySem.W.Frag} {H : Hp} {Q : VK} {a b : Addr} {xs ys : List V} (ha : SqT K H a xs) (hb : SqT K H b ys) (ne : xs ≠ []) (l : xs.length + ys.length ≤ 16777216) (q0 : ys = [] → Q (.ref a) H) (q : ys ≠ [] → ∀ p, H p = none → Q (.ref p) (upd H p (.tup (xs ++ ys)))) : rCatT K (.ref a) (.ref b) H Q :=
  ⟨a, b, xs, ys, rfl, rfl, ha, hb, ne, by rw [sizeLine_eq]; exact l, q0, q⟩
/-- (word,) + tuple(..): the two ways in one -/
theorem catT' {K : PySem.W.Frag} {H : Hp} {Q : VK} {a b : Addr} {xs ys : List V} (ha : SqT K H a xs) (hb : SqT K H b ys) (ne : xs ≠ []) (l : xs.length + ys.length ≤ 16777216) (q : ∀ p H', Same H H' → SqT K H' p (xs ++ ys) → Q (.ref p) H') : rCatT K (.ref a) (.ref b) H Q :=
  catT ha hb ne l (fun e => q a H (Same.refl H) (by rw [e, List.append_nil]; exact ha)) (fun _ p np => q p _ (ext1 np).same (SqT.of upd_same))
theorem atI_of {xs : List V} {i : Int} {k : Nat} {v : V} (e : i = k) (h : xs[k]? = some v) : atI xs i = some v := by rw [e]; exact atI_nat h
theorem cutV_A (l : List V) {j : Int} (h : 0 ≤ j) : cutV l none (some j) = l.take j.toNat := by
  unfold cutV
  rw [HT.sIx_none, sIx_int _ _ h, List.drop_zero, Nat.sub_zero, ← List.take_eq_take_min]
theorem cutV_B (l : List V) {i : Int} (h : 0 ≤ i) : cutV l (some i) none = l.drop i.toNat := by
  unfold cutV
  rw [HT.sIx_none, sIx_int _ _ h]
  rw [List.take_of_length_le (by rw [List.length_drop]; omega)]
  by_cases c : i.toNat ≤ l.length
  · rw [Nat.min_eq_left c]
  · rw [Nat.min_eq_right (by omega), List.drop_length, List.drop_eq_nil_of_le (by omega)]
theorem cutV_C (l : List V) {i j : Int} (h : 0 ≤ i) (h' : 0 ≤ j) : cutV l (some i) (some j) = (l.take j.toNat).drop i.toNat := by
  unfold cutV
  rw [sIx_int _ _ h, sIx_int _ _ h', List.drop_take]
  by_cases c : i.toNat ≤ l.length
  · rw [Nat.min_eq_left c]
    by_cases d : j.toNat ≤ l.length
    · rw [Nat.min_eq_left d]
    · rw [Nat.min_eq_right (by omega), List.take_of_length_le (by rw [List.length_drop]; omega), List.take_of_length_le (by rw [List.length_drop]; omega)]
  · rw [Nat.min_eq_right (a := i.toNat) (by omega), List.drop_length, List.drop_eq_nil_of_le (by omega)]
    simp
theorem dpAll_take {K : PySem.W.Frag} {H : Hp} : ∀ {vs : List V} {ds : List PyData} (n : Nat), DpAll K H vs ds → DpAll K H (vs.take n) (ds.take n)
  | _, _, 0, _ => .nil
  | _, _, _ + 1, .nil => .nil
  | _, _, n + 1, .cons a t => .cons a (dpAll_take n t)
theorem dpAll_drop {K : PySem.W.Frag} {H : Hp} : ∀ {vs : List V} {ds : List PyData} (n : Nat), DpAll K H vs ds → DpAll K H (vs.drop n) (ds.drop n)
  | _, _, 0, h => h
  | _, _, _ + 1, .nil => .nil
  | _, _, n + 1, .cons _ t => dpAll_drop n t
/-- a datum is appended -/
theorem dpAll_snoc {K : PySem.W.Frag} {H : Hp} {p : Addr} {vs : List V} {v : V} {ds : List PyData} {d : PyData} (e : H p = some (.lst vs)) (h : DpAll K H vs ds) (n : noLs ds = true) (hv : Dp K H v d) (nd : noL d = true) :
    DpAll K (upd H p (.lst (vs ++ [v]))) (vs ++ [v]) (ds ++ [d]) :=
  dpAll_app (dpAll_tups (Tups.upd e) _ _ n h) (.cons (dp_tups (Tups.upd e) _ _ nd hv) .nil)
/-- code points -/
def Cp (l : List Nat) : Prop := ∀ c ∈ l, c < 1114112
theorem Cp.app {a b : List Nat} (h : Cp a) (g : Cp b) : Cp (a ++ b) := fun c hc => (List.mem_append.mp hc).elim (h c) (g c)
theorem Cp.take {a : List Nat} (h : Cp a) (n : Nat) : Cp (a.take n) := fun c hc => h c (List.mem_of_mem_take hc)
theorem Cp.drop {a : List Nat} (h : Cp a) (n : Nat) : Cp (a.drop n) := fun c hc => h c (List.mem_of_mem_drop hc)
theorem Cp.ok {a : List Nat} (h : Cp a) : PyData.strOk (mkS a) = true := by
  unfold PyData.strOk mkS
  simp only [List.all_toArray, List.all_eq_true, decide_eq_true_eq]
  exact h
theorem Cp.okD {a : List Nat} (h : Cp a) : okD (.str (mkS a)) = true := by
  rw [Gx.okD]
  exact h.ok
theorem sortI {K : PySem.W.Frag} {H : Hp} {Q : VK} {a : Addr} {ns : List Int} (e : SqL K H a (ns.map V.int)) (h : ∀ (ns' : List Int) p H1, ns'.Perm ns → ns'.Pairwise (· ≤ ·) → Ext1 H H1 p (.lst (ns'.map V.int)) → Q (.ref p) H1) : rSortedI K [.ref a] H Q :=
  ⟨a, ns, rfl, e, fun ns' p pm pw np => h ns' p _ pm pw (ext1 np)⟩
end Gx
/-! ### dicts whose keys are nested tuples -/
namespace Gx
open PySem PySem.Spec PyProof.Rows L2
mutual
/-- the value v is the key k -/
inductive NV (H : Hp) : NestedKey → V → Prop
  | int (i : Int) : NV H (.num i) (.int i)
  | str (x : Str) : NV H (.text x) (.str x)
  | tup {b vs ks} : H b = some (.tup vs) → NVs H ks vs → NV H (.tup ks) (.ref b)
inductive NVs (H : Hp) : List NestedKey → List V → Prop
  | nil : NVs H [] []
  | cons {k v ks vs} : NV H k v → NVs H ks vs → NVs H (k :: ks) (v :: vs)
end
mutual
theorem NV.keeps {H H' : Hp} (t : ∀ b ys, H b = some (.tup ys) → H' b = some (.tup ys)) : ∀ (k : NestedKey) (v : V), NV H k v → NV H' k v
  | .none, _, h => nomatch h
  | .num i, _, h => by cases h; exact .int _
  | .text x, _, h => by cases h; exact .str _
  | .tup ks, _, h => by
    cases h with
    | tup h1 h2 => exact .tup (t _ _ h1) (NVs.keeps t ks _ h2)
theorem NVs.keeps {H H' : Hp} (t : ∀ b ys, H b = some (.tup ys) → H' b = some (.tup ys)) : ∀ (ks : List NestedKey) (vs : List V), NVs H ks vs → NVs H' ks vs
  | [], _, h => by cases h; exact .nil
  | k :: ks, _, h => by
    cases h with
    | cons h1 h2 => exact .cons (NV.keeps t k _ h1) (NVs.keeps t ks _ h2)
end
theorem NVs.ints {H : Hp} : ∀ l : List Int, NVs H (l.map .num) (l.map V.int)
  | [] => .nil
  | i :: l => .cons (.int i) (NVs.ints l)
mutual
theorem NV.is {P : Program} {w : World} {H : Hp} {h : Heap} (ok : HOk P w H h) : ∀ (k : NestedKey) (v : V) (u : Value), NV H k v → RelV v u → NestedIs h k u
  | .none, _, _, h, _ => nomatch h
  | .num i, _, _, h, r => by
    cases h
    obtain ⟨t, rfl⟩ := r
    exact .int _ _
  | .text x, _, _, h, r => by
    cases h
    obtain ⟨t, rfl⟩ := r
    exact .text _ _
  | .tup ks, _, _, h, r => by
    cases h with
    | tup h1 h2 =>
      obtain rfl := r
      obtain ⟨_, its, rv, o, e, hc, n, hd⟩ := ok _ _ h1
      exact .tup e hc hd (NVs.is ok ks _ _ h2 (by simpa using rv))
theorem NVs.is {P : Program} {w : World} {H : Hp} {h : Heap} (ok : HOk P w H h) : ∀ (ks : List NestedKey) (vs : List V) (us : List Value), NVs H ks vs → Vals vs us → NestedAll h ks us
  | [], _, _, h, r => by
    cases h
    cases r
    exact .nil
  | k :: ks, _, _, h, r => by
    cases h with
    | cons h1 h2 =>
      cases r with
      | cons r1 r2 => exact .cons (NV.is ok k _ _ h1 r1) (NVs.is ok ks _ _ h2 r2)
end
/-- an entry: key, the key's tuple, value -/
abbrev E3 := NestedKey × Addr × V
abbrev EV : List E3 → List (NestedKey × Addr × Value) → Prop := Paired fun p q => p.1 = q.1 ∧ p.2.1 = q.2.1 ∧ RelV p.2.2 q.2.2
/-- the dict's own object -/
def dnO (P : Program) (w : World) (a : Addr) (xs : List E3) (h : Heap) : Prop := xs.length ≤ sizeLine ∧ (a == sysModules) = false ∧ ∃ ys, EV xs ys ∧ ∃ o es ep, h.get? a = some o ∧ o.ExactDict ∧ o.data = .dict es ep ∧ es.toList = ys.map (entryOfKey (nestedKind P w)) ∧ (ys.map (·.1)).Nodup
def dnP (xs : List E3) : List (NestedKey × V) := xs.map fun x => (x.1, x.2.2)
/-- at a stands a dict with the keys and values kvs -/
def DN (P : Program) (w : World) (H : Hp) (a : Addr) (kvs : List (NestedKey × V)) : Prop := ∃ xs, H a = some (.ext (dnO P w a xs)) ∧ (∀ x ∈ xs, NV H x.1 (.ref x.2.1) ∧ x.1.depth ≤ 8) ∧ dnP xs = kvs
/-- y is the key k -/
def NK (H : Hp) (k : NestedKey) (y : V) : Prop := ∃ b, y = .ref b ∧ NV H k (.ref b) ∧ k.depth ≤ 8
theorem DN.keeps {P : Program} {w : World} {H H' : Hp} {a : Addr} {kvs : List (NestedKey × V)} (d : DN P w H a kvs) (t : ∀ b ys, H b = some (.tup ys) → H' b = some (.tup ys)) (e : H' a = H a) : DN P w H' a kvs :=
  let ⟨xs, h1, h2, h3⟩ := d
  ⟨xs, e.trans h1, fun x hx => ⟨NV.keeps t _ _ (h2 x hx).1, (h2 x hx).2⟩, h3⟩
theorem DN.same {P : Program} {w : World} {H H' : Hp} {a : Addr} {kvs : List (NestedKey × V)} (d : DN P w H a kvs) (s : Same H H') : DN P w H' a kvs :=
  let ⟨xs, h1, h2, h3⟩ := d
  ⟨xs, s _ _ h1, fun x hx => ⟨NV.keeps (fun _ _ q => s _ _ q) _ _ (h2 x hx).1, (h2 x hx).2⟩, h3⟩
theorem NK.same {H H' : Hp} {k : NestedKey} {y : V} (d : NK H k y) (s : Same H H') : NK H' k y :=
  let ⟨b, h1, h2, h3⟩ := d
  ⟨b, h1, NV.keeps (fun _ _ q => s _ _ q) _ _ h2, h3⟩
theorem ev_val {xs : List E3} {ys : List (NestedKey × Addr × Value)} (r : EV xs ys) (k : NestedKey) : RelO (valV (dnP xs) k) ((atKey ys k).map (·.2)) := by
  induction r with
  | nil => exact True.intro
  | @cons p q ps qs h t ih =>
    obtain ⟨h1, _, h2⟩ := h
    show RelO (valV ((p.1, p.2.2) :: dnP ps) k) _
    by_cases e : p.1 = k
    · have e' : q.1 = k := h1.symm.trans e
      have b : atKey (q :: qs) k = some q.2 := by simp [atKey, List.find?_cons, e']
      rw [valV_pos e, b]; exact h2
    · have e' : ¬ q.1 = k := fun z => e (h1.trans z)
      have b : atKey (q :: qs) k = atKey qs k := by simp [atKey, List.find?_cons, e']
      rw [valV_neg e, b]; exact ih
def put3 (k : NestedKey) (b : Addr) (v : V) (xs : List E3) : List E3 := if (valV (dnP xs) k).isSome then xs.map (fun x => if x.1 = k then (x.1, x.2.1, v) else x) else xs ++ [(k, b, v)]
theorem put3_p (k : NestedKey) (b : Addr) (v : V) (xs : List E3) : dnP (put3 k b v xs) = putK (dnP xs) k v := by
  unfold put3 putK
  rw [valV_any]
  split
  · unfold dnP
    rw [List.map_map, List.map_map]
    refine List.map_congr_left fun x _ => ?_
    simp only [Function.comp_apply]
    split <;> rfl
  · simp [dnP]
theorem ev_repl {xs : List E3} {ys : List (NestedKey × Addr × Value)} (r : EV xs ys) (k : NestedKey) {y : V} {u : Value} (ry : RelV y u) : EV (xs.map fun x => if x.1 = k then (x.1, x.2.1, y) else x) (ys.map (putAt k u)) := by
  induction r with
  | nil => exact .nil
  | @cons p q ps qs h t ih =>
    rw [List.map_cons, List.map_cons]
    refine .cons ?_ ih
    obtain ⟨h1, h2, h3⟩ := h
    unfold putAt
    by_cases e : p.1 = k
    · rw [if_pos e, if_pos (h1.symm.trans e)]; exact ⟨h1, h2, ry⟩
    · rw [if_neg e, if_neg (fun z => e (h1.trans z))]; exact ⟨h1, h2, h3⟩
theorem ev_put {xs : List E3} {ys : List (NestedKey × Addr × Value)} (r : EV xs ys) (k : NestedKey) {b : Addr} {y : V} {u : Value} (ry : RelV y u) : EV (put3 k b y xs) (storedH ys k b u) := by
  have e : (valV (dnP xs) k).isSome = (atKey ys k).isSome := by
    rw [(ev_val r k).isSome_eq, Option.isSome_map]
  unfold put3 storedH
  rw [e]
  by_cases q : (atKey ys k).isSome = true
  · rw [if_pos q, if_pos q]; exact ev_repl r k ry
  · rw [if_neg q, if_neg q]; exact Paired.snoc r ⟨rfl, rfl, ry⟩
section
variable {X : Cx} {pins : List (Addr × Obj)} {σ : L2.St} {H : Hp} {s : Shared} {a : Addr} {y v : V} {u r : Value} {A : Around} {E : Value → Shared → Prop} {kvs : List (NestedKey × V)} {k : NestedKey}
theorem ev_mem {xs : List E3} {ys : List (NestedKey × Addr × Value)} (r : EV xs ys) {φ : NestedKey → Addr → Prop} (h : ∀ x ∈ xs, φ x.1 x.2.1) : ∀ x ∈ ys, φ x.1 x.2.1 := by
  induction r with
  | nil => exact fun x hx => nomatch hx
  | @cons p q ps qs g t ih =>
    intro x hx
    rcases List.mem_cons.mp hx with rfl | hx
    · have := h p List.mem_cons_self
      rw [g.1, g.2.1] at this
      exact this
    · exact ih (fun x hx => h x (List.mem_cons_of_mem _ hx)) x hx
theorem nk_is (I : Inv X pins σ H s) (g : NK H k y) (ry : RelV y u) : ∃ b, u = .ref b ∧ (nestedKind X.prog X.w).is s.heap k b := by
  obtain ⟨b, rfl, h2, h3⟩ := g
  obtain rfl := ry
  exact ⟨b, rfl, NV.is I.hok _ _ _ h2 rfl, h3⟩
theorem dn_of (I : Inv X pins σ H s) {xs : List E3} (e : H a = some (.ext (dnO X.prog X.w a xs))) (g : ∀ x ∈ xs, NV H x.1 (.ref x.2.1) ∧ x.1.depth ≤ 8) : xs.length ≤ sizeLine ∧ (a == sysModules) = false ∧ ∃ ys, EV xs ys ∧ s.heap.DictOfH (nestedKind X.prog X.w) a ys := by
  obtain ⟨⟨z, hd, ys, ev, o, es, ep, h1, h2, h3, h4, h5⟩, _⟩ := I.hok _ _ e
  exact ⟨z, hd, ys, ev, o, es, ep, h1, h2, h3, h4, ev_mem ev (φ := fun k b => (nestedKind X.prog X.w).is s.heap k b) (fun x hx => ⟨NV.is I.hok _ _ _ (g x hx).1 rfl, (g x hx).2⟩), h5⟩
theorem n_room (hu : A.units + 64 < cLine) : (nestedKind X.prog X.w).room A.in1 := by
  show A.units + 1 + 8 < cLine
  omega
theorem n_getItem {Q : Value → Shared → Prop} (hu : A.units + 64 < cLine) (I : Inv X pins σ H s) (d : DN X.prog X.w H a kvs) (g : NK H k y) (hv : valV kvs k = some v) (ry : RelV y u) (h : ∀ w' s', Inv X pins σ H s' → RelV v w' → Q w' s') :
    wpAny (model X.prog X.w) A (getItem (.ref a) u) Q E s := by
  obtain ⟨xs, e, gx, rfl⟩ := d
  obtain ⟨b, rfl, kb⟩ := nk_is I g ry
  obtain ⟨z, hd, ys, ev, dd⟩ := dn_of I e gx
  obtain ⟨w', hw, rw'⟩ := RelO.some_of (v := v) (o := (atKey ys k).map (·.2)) (by rw [← hv]; exact ev_val ev k)
  obtain ⟨p, hp, hp2⟩ := Option.map_eq_some_iff.mp hw
  refine wpAny_getItem_heap (n_room (X := X) hu) kb dd hp ?_
  rw [hp2]
  exact h w' _ (I.tok _) rw'
theorem n_in {Q : Value → Shared → Prop} (hu : A.units + 64 < cLine) (I : Inv X pins σ H s) (d : DN X.prog X.w H a kvs) (g : NK H k y) (ry : RelV y u) (h : ∀ s', Inv X pins σ H s' → Q (.bool (valV kvs k).isSome) s') :
    wpAny (model X.prog X.w) A (compareOp .In u (.ref a)) Q E s := by
  obtain ⟨xs, e, gx, rfl⟩ := d
  obtain ⟨b, rfl, kb⟩ := nk_is I g ry
  obtain ⟨z, hd, ys, ev, dd⟩ := dn_of I e gx
  refine wpAny_in_heap (n_room (X := X) hu) kb hd dd ?_
  have q := (ev_val ev k).isSome_eq
  rw [Option.isSome_map] at q
  rw [← q]
  exact h _ (I.tok _)
theorem n_notIn {Q : Value → Shared → Prop} (hu : A.units + 64 < cLine) (I : Inv X pins σ H s) (d : DN X.prog X.w H a kvs) (g : NK H k y) (ry : RelV y u) (h : ∀ s', Inv X pins σ H s' → Q (.bool (!(valV kvs k).isSome)) s') :
    wpAny (model X.prog X.w) A (compareOp .NotIn u (.ref a)) Q E s := by
  obtain ⟨xs, e, gx, rfl⟩ := d
  obtain ⟨b, rfl, kb⟩ := nk_is I g ry
  obtain ⟨z, hd, ys, ev, dd⟩ := dn_of I e gx
  refine wpAny_notIn_heap (n_room (X := X) hu) kb hd dd ?_
  have q := (ev_val ev k).isSome_eq
  rw [Option.isSome_map] at q
  rw [← q]
  exact h _ (I.tok _)
theorem put3_len (k : NestedKey) (b : Addr) (v : V) (xs : List E3) : (put3 k b v xs).length ≤ xs.length + 1 := by
  unfold put3
  split
  · rw [List.length_map]; omega
  · rw [List.length_append, List.length_singleton]; omega
theorem put3_all {φ : NestedKey → Addr → Prop} {k : NestedKey} {b : Addr} {v : V} {xs : List E3} (h : ∀ x ∈ xs, φ x.1 x.2.1) (g : φ k b) : ∀ x ∈ put3 k b v xs, φ x.1 x.2.1 := by
  intro x hx
  unfold put3 at hx
  split at hx
  · obtain ⟨z, hz, rfl⟩ := List.mem_map.mp hx
    split
    · exact h z hz
    · exact h z hz
  · rcases List.mem_append.mp hx with hx | hx
    · exact h x hx
    · cases List.mem_singleton.mp hx
      exact g
theorem dnO_stay {P : Program} {w : World} {xs : List E3} (h1 h2 : Heap) (p : dnO P w a xs h1) (k : ∀ o, h1.get? a = some o → h2.get? a = some o) : dnO P w a xs h2 := by
  obtain ⟨z, hd, ys, ev, o, es, ep, e1, e2, e3, e4, e5⟩ := p
  exact ⟨z, hd, ys, ev, o, es, ep, k _ e1, e2, e3, e4, e5⟩
theorem n_setItem {Q : Unit → Shared → Prop} (hu : A.units + 64 < cLine) (I : Inv X pins σ H s) (d : DN X.prog X.w H a kvs) (g : NK H k y) (hl : kvs.length < sizeLine) (ry : RelV y u) (rv : RelV v r)
    (h : ∀ H' s', DN X.prog X.w H' a (putK kvs k v) → (∀ b, b ≠ a → H' b = H b) → Inv X pins σ H' s' → Q () s') : wpAny (model X.prog X.w) A (setItem (.ref a) u r) Q E s := by
  obtain ⟨xs, e, gx, rfl⟩ := d
  obtain ⟨b, ey, nb, hk8⟩ := id g
  obtain ⟨b', rfl, kb⟩ := nk_is I g ry
  subst ey
  obtain rfl : b' = b := by
    have : Value.ref b' = Value.ref b := ry
    injection this
  obtain ⟨z, hd, ys, ev, dd⟩ := dn_of I e gx
  have hlx : xs.length < sizeLine := by unfold dnP at hl; rwa [List.length_map] at hl
  have hz : ys.length ≤ sizeLine := by rw [← Paired.length ev]; exact z
  refine wpAny_setItem_heap (hsz := hz) (n_room (X := X) hu) kb dd fun h' dd' hs => ?_
  have tk : ∀ c zs, H c = some (.tup zs) → (upd H a (.ext (dnO X.prog X.w a (put3 k b' v xs)))) c = some (.tup zs) := fun c zs ec => by
    rw [upd_ne (ne_of ec e (fun z => nomatch z))]
    exact ec
  refine h (upd H a (.ext (dnO X.prog X.w a (put3 k b' v xs)))) _ ⟨_, upd_same, ?_, put3_p _ _ _ _⟩ (fun c hc => upd_ne hc) ?_
  · exact put3_all (φ := fun k b => NV _ k (.ref b) ∧ k.depth ≤ 8) (fun x hx => ⟨NV.keeps tk _ _ (gx x hx).1, (gx x hx).2⟩) ⟨NV.keeps tk _ _ nb, hk8⟩
  · obtain ⟨q, es, ep, hq, h2, h3, h4, _, h5⟩ := dd'
    have hlen := put3_len k b' v xs
    refine d_write I (by rw [e]; exact True.intro) hs ⟨q, hq⟩ ⟨⟨by omega, hd, _, ev_put ev k rv, q, es, ep, hq, h2, h3, h4, h5⟩, ⟨q, hq⟩, dnO_stay⟩
/-- {} -/
def tNNew (P : Program) (w : World) : TE := fun _ H Q => ∀ p H', H p = none → DN P w H' p [] → (∀ b, b ≠ p → H' b = H b) → Q (.ref p) H'
theorem pe_nnew {pos : Pos} : PE X (.Dict [] [] pos) (tNNew X.prog X.w) := ⟨fun pins s σ H Q I h => by
  have ok : dnO X.prog X.w s.heap.objs.size [] (s.heap.push { cls := .type "dict", data := .dict #[] }) :=
    ⟨Nat.zero_le _, beq_eq_false_iff_ne.mpr (Ne.symm (Nat.ne_of_lt I.big)), [], .nil, _, #[], 0, Heap.get?_push_size _ rfl, ⟨rfl, rfl, rfl⟩, rfl, rfl, List.nodup_nil⟩
  refine wpAny_Dict_empty ⟨.ref s.heap.objs.size, upd H s.heap.objs.size (.ext (dnO X.prog X.w s.heap.objs.size [])), I.laid (t' := s.toks) (fun _ _ q => Heap.get?_push_of_some _ q) (Nat.le_refl _) ⟨ok, ⟨_, Heap.get?_push_size _ rfl⟩, dnO_stay⟩, rfl, ?_⟩
  exact h _ _ (I.hok.fresh (Nat.le_refl _)) ⟨[], upd_same, (fun x hx => nomatch hx), rfl⟩ fun b hb => upd_ne hb⟩
def tNGet (P : Program) (w : World) (td ty : TE) : TE := fun σ H Q => td σ H fun x H1 => ty σ H1 fun y H2 => ∃ a kvs k v, x = .ref a ∧ DN P w H2 a kvs ∧ NK H2 k y ∧ valV kvs k = some v ∧ Q v H2
def tNIn (P : Program) (w : World) (ty td : TE) : TE := fun σ H Q => ty σ H fun y H1 => td σ H1 fun x H2 => ∃ a kvs k, x = .ref a ∧ DN P w H2 a kvs ∧ NK H2 k y ∧ Q (.bl (valV kvs k).isSome) H2
def tNNotIn (P : Program) (w : World) (ty td : TE) : TE := fun σ H Q => ty σ H fun y H1 => td σ H1 fun x H2 => ∃ a kvs k, x = .ref a ∧ DN P w H2 a kvs ∧ NK H2 k y ∧ Q (.bl (!(valV kvs k).isSome)) H2
def sNPut (P : Program) (w : World) (td ty tv : TE) : TS := fun D σ H => tv σ H fun v H1 => td σ H1 fun x H2 => ty σ H2 fun y H3 => ∃ a kvs k, x = .ref a ∧ DN P w H3 a kvs ∧ NK H3 k y ∧ kvs.length < sizeLine ∧ ∀ H4, DN P w H4 a (putK kvs k v) → (∀ b, b ≠ a → H4 b = H3 b) → D.nx σ H4
variable {o i e value : Expr} {pos pos' tpos : Pos} {td ty tv : TE}
theorem dn_typeIs (I : Inv X pins σ H s) (d : DN X.prog X.w H a kvs) : s.TypeIs (.ref a) "dict" := by
  obtain ⟨xs, e, gx, rfl⟩ := d
  obtain ⟨z, hd, ys, ev, dd⟩ := dn_of I e gx
  exact dd.typeIs
theorem pe_nget (hu : X.A.units + 64 < cLine) (ho : PE X o td) (hi : PE X i ty) (hs : NoSl i) : PE X (.Subscript o i pos) (tNGet X.prog X.w td ty) := by
  refine ⟨fun pins s σ H Q I h => ?_⟩
  refine subD_of PySem.F.slot_dict_getitem.lookup hs (thn (ho.run pins s σ H _ I h) fun u s1 ⟨x, H1, I1, rx, q1⟩ => thn (hi.run pins s1 σ H1 _ I1 q1) fun iv s2 ⟨y, H2, I2, ry, a, kvs, k, v, ex, d, g, hv, q2⟩ => ?_)
  subst ex
  obtain rfl : u = Value.ref a := rx
  exact ⟨dn_typeIs I2 d, n_getItem hu I2 d g hv ry fun w' s3 I3 rw' => ⟨v, H2, I3, rw', q2⟩⟩
theorem pc_nin (hu : X.A.units + 64 < cLine) (hi : PE X i ty) (ho : PE X o td) : PC X .In i o (tNIn X.prog X.w ty td) := by
  refine ⟨fun pins s σ H Q I h => ?_⟩
  refine thn (hi.run pins s σ H _ I h) fun iv s1 ⟨y, H1, I1, ry, q1⟩ => thn (ho.run pins s1 σ H1 _ I1 q1) fun u s2 ⟨x, H2, I2, rx, a, kvs, k, ex, d, g, q2⟩ => ?_
  subst ex
  obtain rfl : u = Value.ref a := rx
  exact n_in hu I2 d g ry fun s3 I3 => ⟨.bl (valV kvs k).isSome, H2, I3, rfl, q2⟩
theorem pc_nnotin (hu : X.A.units + 64 < cLine) (hi : PE X i ty) (ho : PE X o td) : PC X .NotIn i o (tNNotIn X.prog X.w ty td) := by
  refine ⟨fun pins s σ H Q I h => ?_⟩
  refine thn (hi.run pins s σ H _ I h) fun iv s1 ⟨y, H1, I1, ry, q1⟩ => thn (ho.run pins s1 σ H1 _ I1 q1) fun u s2 ⟨x, H2, I2, rx, a, kvs, k, ex, d, g, q2⟩ => ?_
  subst ex
  obtain rfl : u = Value.ref a := rx
  exact n_notIn hu I2 d g ry fun s3 I3 => ⟨.bl (!(valV kvs k).isSome), H2, I3, rfl, q2⟩
theorem ps_nput (hu : X.A.units + 64 < cLine) (ho : PE X o td) (hi : PE X i ty) (hv : PE X value tv) (hs : swapsWith value (some (.Subscript o i pos')) pos.line X.env = pure false) :
    PS X (.Assign [.Subscript o i pos'] value pos) (sNPut X.prog X.w td ty tv) := by
  refine ⟨fun pins s σ H D I h => ?_⟩
  refine wpAny_Assign_Subscript (thn (hv.run pins s σ H _ I h) fun r s1 ⟨v, H1, I1, rv, q1⟩ => thn (ho.run pins s1 σ H1 _ I1 q1) fun u s2 ⟨x, H2, I2, rx, q2⟩ => thn (hi.run pins s2 σ H2 _ I2 q2) fun iv s3 ⟨y, H3, I3, ry, a, kvs, k, ex, d, g, hl, q3⟩ => ?_) hs
  subst ex
  obtain rfl : u = Value.ref a := rx
  exact n_setItem hu I3 d g hl ry rv fun H4 s4 d4 k4 I4 => ⟨σ, H4, I4, q3 H4 d4 k4⟩
/-- len(d) -/
def rLenN (P : Program) (w : World) : List V → Hp → VK → Prop := fun xs H Q => ∃ p kvs, xs = [.ref p] ∧ DN P w H p kvs ∧ Q (.int ((kvs.length : Nat) : Int)) H
theorem cr_lenN {X : Cx} : CallR X (.builtin "len") (rLenN X.prog X.w) := by
  intro pins s σ H xs us Q I r h
  obtain ⟨p, kvs, rfl, ⟨xs, e, gx, rfl⟩, q⟩ := h
  obtain ⟨u, rfl, r1⟩ := vals1 r
  obtain rfl : u = Value.ref p := r1
  obtain ⟨z, hd, ys, ev, dd⟩ := dn_of I e gx
  refine call_len_dictH hd dd ?_ ?_
  · rw [← Paired.length ev]
    have : sizeLine < 2 ^ 62 := by rw [sizeLine_eq]; decide
    omega
  · have el : ys.length = (dnP xs).length := by unfold dnP; rw [List.length_map, Paired.length ev]
    rw [el]
    exact ⟨.int ((dnP xs).length : Nat), H, I.tok _, ⟨_, rfl⟩, q⟩
end
end Gx
/-! ### dicts, sequences that are lists or tuples, while -/
namespace Gx
open PySem PySem.Spec PyProof.Rows L2
theorem hu1 {A : Around} (h : A.units + 64 < cLine) : A.units + 1 < cLine := by omega
/-- a list or a tuple -/
def Sq (K : PySem.W.Frag) (H : Hp) (a : Addr) (xs : List V) : Prop := SqL K H a xs ∨ SqT K H a xs
theorem Sq.same {K : PySem.W.Frag} {H H' : Hp} {a : Addr} {xs : List V} (h : Sq K H a xs) (e : Same H H') : Sq K H' a xs := h.elim (fun z => .inl (e.seq z)) fun z => .inr (e.seqT z)
/-- walked, a list or a tuple -/
def iSq (K : PySem.W.Frag) (tl : TE) : TI := fun σ H R => tl σ H fun x H1 => ∃ a, x = .ref a ∧ (((∃ xs, SqL K H1 a xs) ∧ R (Itl K a) H1) ∨ ((∃ xs, SqT K H1 a xs) ∧ R (Itt K a) H1))
theorem pi_seq {X : Cx} {tg l : Expr} {tl : TE} (hl : PE X l tl) : PI X tg l (iSq X.K tl) := by
  refine ⟨fun pins s σ H R I h => ?_⟩
  refine thn (hl.run pins s σ H _ I h) fun v s1 ⟨x, H1, I1, r1, q1⟩ => ?_
  obtain ⟨a, e, q⟩ := q1
  subst e
  cases r1
  rcases q with ⟨⟨xs, hq⟩, q⟩ | ⟨⟨xs, hq⟩, q⟩
  · obtain ⟨its, rv, p, hz⟩ := I1.list hq
    refine wpAny_pyIter_list p.isList ?_
    refine ⟨s1.heap.objs.size, [s1.heap.objs.size], _, _, H1, rfl, I1.kept (t' := s1.toks) fun b o e => Heap.get?_push_of_some _ e, turn_list a _, ⟨_, Heap.get?_push_size _ rfl, rfl, rfl⟩, fun b hb => ?_, q⟩
    have e : b = s1.heap.objs.size := by simpa using hb
    subst e
    exact I1.fpOk (Nat.le_refl _) (I1.hok.fresh (Nat.le_refl _))
  · obtain ⟨its, rv, p, hz⟩ := I1.tuple hq
    refine wpAny_pyIter_tuple (show s1.heap.IsTuple a its.toArray from p) ?_
    refine ⟨s1.heap.objs.size, [s1.heap.objs.size], _, _, H1, rfl, I1.kept (t' := s1.toks) fun b o e => Heap.get?_push_of_some _ e, turn_tuple a _, ⟨_, Heap.get?_push_size _ rfl, rfl, rfl⟩, fun b hb => ?_, q⟩
    have e : b = s1.heap.objs.size := by simpa using hb
    subst e
    exact I1.fpOk (Nat.le_refl _) (I1.hok.fresh (Nat.le_refl _))
section
variable {σ : L2.St} {H : Hp} {Q : VK} {D : Ends} {td ty tv tk : TE} {K : PySem.W.Frag} {P : Program} {w : World}
theorem isq {R : It → Hp → Prop} (h : td σ H fun x H1 => ∃ a, x = .ref a ∧ (((∃ xs, SqL K H1 a xs) ∧ R (Itl K a) H1) ∨ ((∃ xs, SqT K H1 a xs) ∧ R (Itt K a) H1))) : iSq K td σ H R := h
theorem for_sq {H0 : Hp} {a : Addr} {xs : List V} {g : TG} {tb : TS} (Pv : Nat → L2.St → Hp → Prop) (hq : Sq K H0 a xs) (h0 : Pv 0 σ H) (hl : ∀ i σ H', i ≤ xs.length → Pv i σ H' → Same H0 H')
    (hs : ∀ i x σ H, xs[i]? = some x → Pv i σ H → g x σ H fun σ2 H2 => tb { D with nx := Pv (i + 1), ct := Pv (i + 1), bk := D.nx } σ2 H2) (hd : ∀ σ H, Pv xs.length σ H → D.nx σ H) :
    (((∃ xs, SqL K H a xs) ∧ ∃ W : Nat → Nat → L2.St → Hp → Prop, (∃ m, W 0 m σ H) ∧ ∀ i m σ H, W i m σ H →
      ((Itl K a).stop i H ∧ D.nx σ H) ∨ ((Itl K a).go i H ∧ ∃ N : L2.St → Hp → Prop, (∀ σ' H', N σ' H' → ∃ m', m' < m ∧ W (i + 1) m' σ' H') ∧ ∀ x H', (Itl K a).yld i H x H' → g x σ H' fun σ2 H2 => tb { D with nx := N, ct := N, bk := D.nx } σ2 H2))
    ∨ ((∃ xs, SqT K H a xs) ∧ ∃ W : Nat → Nat → L2.St → Hp → Prop, (∃ m, W 0 m σ H) ∧ ∀ i m σ H, W i m σ H →
      ((Itt K a).stop i H ∧ D.nx σ H) ∨ ((Itt K a).go i H ∧ ∃ N : L2.St → Hp → Prop, (∀ σ' H', N σ' H' → ∃ m', m' < m ∧ W (i + 1) m' σ' H') ∧ ∀ x H', (Itt K a).yld i H x H' → g x σ H' fun σ2 H2 => tb { D with nx := N, ct := N, bk := D.nx } σ2 H2))) := by
  rcases hq with hq | hq
  · exact .inl ⟨⟨_, (hl 0 σ H (Nat.zero_le _) h0).seq hq⟩, for_list Pv h0 (fun i σ H' hi p => (hl i σ H' hi p).seq hq) hs hd⟩
  · exact .inr ⟨⟨_, (hl 0 σ H (Nat.zero_le _) h0).seqT hq⟩, for_tup Pv h0 (fun i σ H' hi p => (hl i σ H' hi p).seqT hq) hs hd⟩
theorem lc_sq {a : Addr} {xs : List V} {g : TG} {tt : TT} {te : TE} {vs : List Nat} {Qd : Addr → Hp → Prop} (hq : Sq K H a xs) (hne : ∀ D, H D = none →
    ∃ Pv : Nat → Hp → Prop, Pv 0 (upd H D (.lst [])) ∧ (∀ i H', i ≤ xs.length → Pv i H' → Same H H') ∧
    (∀ i x H, xs[i]? = some x → Pv i H → g x (wipe σ vs) H fun σ2 H2 => wipe σ2 vs = wipe σ vs ∧ tt σ2 H2 fun b H3 =>
      if b = true then te σ2 H3 fun y H4 => ∃ acc, H4 D = some (.lst acc) ∧ acc.length < sizeLine ∧ Pv (i + 1) (upd H4 D (.lst (acc ++ [y]))) else Pv (i + 1) H3) ∧ (∀ H, Pv xs.length H → Qd D H)) :
    (((∃ xs, SqL K H a xs) ∧ ∀ D, H D = none → ∃ W : Nat → Nat → Hp → Prop, (∃ m, W 0 m (upd H D (.lst []))) ∧ ∀ i m H, W i m H →
      ((Itl K a).stop i H ∧ Qd D H) ∨ ((Itl K a).go i H ∧ ∃ Nx : Hp → Prop, (∀ H', Nx H' → ∃ m', m' < m ∧ W (i + 1) m' H') ∧ ∀ x H', (Itl K a).yld i H x H' → g x (wipe σ vs) H' fun σ2 H2 => wipe σ2 vs = wipe σ vs ∧ tt σ2 H2 fun b H3 =>
        if b = true then te σ2 H3 fun y H4 => ∃ acc, H4 D = some (.lst acc) ∧ acc.length < sizeLine ∧ Nx (upd H4 D (.lst (acc ++ [y]))) else Nx H3))
    ∨ ((∃ xs, SqT K H a xs) ∧ ∀ D, H D = none → ∃ W : Nat → Nat → Hp → Prop, (∃ m, W 0 m (upd H D (.lst []))) ∧ ∀ i m H, W i m H →
      ((Itt K a).stop i H ∧ Qd D H) ∨ ((Itt K a).go i H ∧ ∃ Nx : Hp → Prop, (∀ H', Nx H' → ∃ m', m' < m ∧ W (i + 1) m' H') ∧ ∀ x H', (Itt K a).yld i H x H' → g x (wipe σ vs) H' fun σ2 H2 => wipe σ2 vs = wipe σ vs ∧ tt σ2 H2 fun b H3 =>
        if b = true then te σ2 H3 fun y H4 => ∃ acc, H4 D = some (.lst acc) ∧ acc.length < sizeLine ∧ Nx (upd H4 D (.lst (acc ++ [y]))) else Nx H3))) := by
  rcases hq with hq | hq
  · refine .inl ⟨⟨_, hq⟩, fun D nD => ?_⟩
    obtain ⟨Pv, h0, hl, hs, hd⟩ := hne D nD
    exact lc_list Pv h0 (fun i H' hi p => (hl i H' hi p).seq hq) hs hd
  · refine .inr ⟨⟨_, hq⟩, fun D nD => ?_⟩
    obtain ⟨Pv, h0, hl, hs, hd⟩ := hne D nD
    exact lc_tup Pv h0 (fun i H' hi p => (hl i H' hi p).seqT hq) hs hd
theorem ixQ {p : Addr} {xs : List V} {i : Int} {k : Nat} {v : V} (c : Sq K H p xs) (e : i = k) (a : xs[k]? = some v) (h : Q v H) : rIx K (.ref p) (.int i) H Q :=
  c.elim (fun z => .inl ⟨p, xs, i, v, rfl, rfl, z, atI_of e a, h⟩) fun z => .inr (.inl ⟨p, xs, i, v, rfl, rfl, z, atI_of e a, h⟩)
theorem lenQ {p : Addr} {xs : List V} (c : Sq K H p xs) (h : Q (.int xs.length) H) : rLenQ K [.ref p] H Q := c.elim (fun z => lenL z h) fun z => lenT z h
theorem din (h : ty σ H fun y H1 => td σ H1 fun x H2 => ∃ a o, x = .ref a ∧ DGet H2 a y o ∧ Q (.bl o.isSome) H2) : tDIn ty td σ H Q := h
theorem dnotin (h : ty σ H fun y H1 => td σ H1 fun x H2 => ∃ a o, x = .ref a ∧ DGet H2 a y o ∧ Q (.bl (!o.isSome)) H2) : tDNotIn ty td σ H Q := h
theorem dget (h : td σ H fun x H1 => ty σ H1 fun y H2 => ∃ a v, x = .ref a ∧ DGet H2 a y (some v) ∧ Q v H2) : tDGet td ty σ H Q := h
theorem dput (h : tv σ H fun v H1 => td σ H1 fun x H2 => ty σ H2 fun y H3 => ∃ a H4, x = .ref a ∧ DPut H3 a y v H4 ∧ D.nx σ H4) : sDPut td ty tv D σ H := h
theorem dnewK (h : ∀ p, H p = none → Q (.ref p) (upd H p (.dK []))) : tDNewK σ H Q := h
theorem disp1 (h : ∀ p, H p = none → tk σ (upd H p (.dK [])) fun x H1 => tv σ H1 fun y H2 => H2 p = some (.dK []) ∧ ∃ kvs : List (Key × V), [(x, y)] = kvs.map (fun kv => (kV kv.1, kv.2)) ∧ kvs.length ≤ 15 ∧ Q (.ref p) (upd H2 p (.dK (mergeK [] kvs)))) : tDisp [(tk, tv)] σ H Q := h
theorem nin (h : ty σ H fun y H1 => td σ H1 fun x H2 => ∃ a kvs k, x = .ref a ∧ DN P w H2 a kvs ∧ NK H2 k y ∧ Q (.bl (valV kvs k).isSome) H2) : tNIn P w ty td σ H Q := h
theorem nnotin (h : ty σ H fun y H1 => td σ H1 fun x H2 => ∃ a kvs k, x = .ref a ∧ DN P w H2 a kvs ∧ NK H2 k y ∧ Q (.bl (!(valV kvs k).isSome)) H2) : tNNotIn P w ty td σ H Q := h
theorem nget (h : td σ H fun x H1 => ty σ H1 fun y H2 => ∃ a kvs k v, x = .ref a ∧ DN P w H2 a kvs ∧ NK H2 k y ∧ valV kvs k = some v ∧ Q v H2) : tNGet P w td ty σ H Q := h
theorem nput (h : tv σ H fun v H1 => td σ H1 fun x H2 => ty σ H2 fun y H3 => ∃ a kvs k, x = .ref a ∧ DN P w H3 a kvs ∧ NK H3 k y ∧ kvs.length < sizeLine ∧ ∀ H4, DN P w H4 a (putK kvs k v) → (∀ b, b ≠ a → H4 b = H3 b) → D.nx σ H4) : sNPut P w td ty tv D σ H := h
theorem nnew (h : ∀ p H', H p = none → DN P w H' p [] → (∀ b, b ≠ p → H' b = H b) → Q (.ref p) H') : tNNew P w σ H Q := h
theorem dc {wi : TI} {g : TG} {tt : TT} {vs : List Nat} (h : wi σ H fun J H1 => ∀ D, H1 D = none → ∃ W : Nat → Nat → Hp → Prop, (∃ m, W 0 m (upd H1 D (.dK []))) ∧ ∀ i m H, W i m H →
  (J.stop i H ∧ Q (.ref D) H) ∨ (J.go i H ∧ ∃ Nx : Hp → Prop, (∀ H', Nx H' → ∃ m', m' < m ∧ W (i + 1) m' H') ∧ ∀ x H', J.yld i H x H' → g x (wipe σ vs) H' fun σ2 H2 => wipe σ2 vs = wipe σ vs ∧ tt σ2 H2 fun b H3 =>
    if b = true then tk σ2 H3 fun y H4 => tv σ2 H4 fun z H5 => ∃ kvs k, y = kV k ∧ H5 D = some (.dK kvs) ∧ kvs.length < sizeLine ∧ Nx (upd H5 D (.dK (putK kvs k z))) else Nx H3)) : tDc wi g tt tk tv vs σ H Q := h
theorem wh {c : TT} {tb : TS} {W : Nat → L2.St → Hp → Prop} {m0 : Nat} (h0 : W m0 σ H) (hs : ∀ m σ H, W m σ H → c σ H fun b H1 => if b = true then ∃ N : L2.St → Hp → Prop, (∀ σ' H', N σ' H' → ∃ m', m' < m ∧ W m' σ' H') ∧ tb { D with nx := N, ct := N, bk := D.nx } σ H1 else D.nx σ H1) : tWhile c tb D σ H := ⟨W, ⟨m0, h0⟩, hs⟩
/-- bool(x) -/
def rBool1 : List V → Hp → VK → Prop := fun xs H Q => (∃ i, xs = [.int i] ∧ Q (.bl (i != 0)) H) ∨ ∃ k, xs = [.bl k] ∧ Q (.bl k) H
theorem cr_bool1 {X : Cx} : CallR X (.type "bool") rBool1 := call_bool1
theorem boolB {b : Bool} (h : Q (.bl b) H) : rBool1 [.bl b] H Q := .inr ⟨b, rfl, h⟩
theorem intB {b : Bool} (h : Q (.int (if b then 1 else 0)) H) : rInt1 [.bl b] H Q := .inr ⟨b, rfl, h⟩
/-- the dict at d holds at each s of o the number f s -/
def DM (H : Hp) (d : Addr) (n : Nat) (o : List Nat) (f : Nat → Nat) : Prop := ∃ kvs : List (Key × V), H d = some (.dK kvs) ∧ kvs.length ≤ n ∧ ∀ s ∈ o, valV kvs (.inl (s : Nat)) = some (.int (f s : Nat))
theorem DM.same {H H' : Hp} {d : Addr} {n : Nat} {o : List Nat} {f : Nat → Nat} (h : DM H d n o f) (e : Same H H') : DM H' d n o f := let ⟨kvs, a, b, c⟩ := h; ⟨kvs, e _ _ a, b, c⟩
end
end Gx
namespace Gx
open PySem PySem.Spec PyProof.Rows L2
/-- a dict made over a list that stays -/
theorem dc_list {K : PySem.W.Frag} {H0 : Hp} {a : Addr} {xs : List V} {g : TG} {tt : TT} {tk tv : TE} {vs : List Nat} {σ : L2.St} {H1 : Hp} {D : Addr} {Qd : Hp → Prop} (Pv : Nat → Hp → Prop) (hq : SqL K H0 a xs) (h0 : Pv 0 (upd H1 D (.dK []))) (hl : ∀ i H, i ≤ xs.length → Pv i H → Same H0 H)
    (hs : ∀ i x H, xs[i]? = some x → Pv i H → g x (wipe σ vs) H fun σ2 H2 => wipe σ2 vs = wipe σ vs ∧ tt σ2 H2 fun b H3 =>
      if b = true then tk σ2 H3 fun y H4 => tv σ2 H4 fun z H5 => ∃ kvs k, y = kV k ∧ H5 D = some (.dK kvs) ∧ kvs.length < sizeLine ∧ Pv (i + 1) (upd H5 D (.dK (putK kvs k z))) else Pv (i + 1) H3) (hd : ∀ H, Pv xs.length H → Qd H) :
    ∃ W : Nat → Nat → Hp → Prop, (∃ m, W 0 m (upd H1 D (.dK []))) ∧ ∀ i m H, W i m H →
      ((Itl K a).stop i H ∧ Qd H) ∨ ((Itl K a).go i H ∧ ∃ Nx : Hp → Prop, (∀ H', Nx H' → ∃ m', m' < m ∧ W (i + 1) m' H') ∧ ∀ x H', (Itl K a).yld i H x H' → g x (wipe σ vs) H' fun σ2 H2 => wipe σ2 vs = wipe σ vs ∧ tt σ2 H2 fun b H3 =>
        if b = true then tk σ2 H3 fun y H4 => tv σ2 H4 fun z H5 => ∃ kvs k, y = kV k ∧ H5 D = some (.dK kvs) ∧ kvs.length < sizeLine ∧ Nx (upd H5 D (.dK (putK kvs k z))) else Nx H3) := by
  refine ⟨fun i m H => m + i = xs.length ∧ Pv i H, ⟨xs.length, rfl, h0⟩, ?_⟩
  rintro i m H ⟨hm, p⟩
  have q := (hl i H (by omega) p).seq hq
  cases m with
  | zero =>
    have e : i = xs.length := by omega
    subst e
    exact .inl ⟨⟨xs, q, Nat.le_refl _⟩, hd H p⟩
  | succ m =>
    have hlt : i < xs.length := by omega
    refine .inr ⟨⟨xs, xs[i], q, List.getElem?_eq_getElem hlt⟩, Pv (i + 1), fun H' p' => ⟨m, Nat.lt_succ_self m, by omega, p'⟩, ?_⟩
    rintro x H' ⟨rfl, y⟩
    exact hs i x _ (y xs q) p
end Gx
namespace Gx
open PySem PySem.Spec PyProof.Rows L2
section
variable {X : Cx}
theorem sw_dict {kx vx : Expr} {gs : List Comprehension} {scope : Scope} {pos py : Pos} {y : Str} {l : Nat} {env : Env} (hk : env.scope.kind = .function) (hy : env.scope.names.lookup y = some .local) (hl : (py.line == pos.line) = true)
    (ha : (scope.names.any fun (n, k) => n == y && (k == .local || k == .cell)) = false) : swapsWith (.DictComp kx vx gs scope pos) (some (.Name y py)) l env = pure true := by
  have ky : env.kindOf y = some .local := hy
  have hb : env.blockKind = .function := by unfold Env.blockKind; rw [hk]; rfl
  unfold swapsWith
  simp only [hb, ky, ha, Expr.pos, hl]
  rfl
/-- name = {k: v for ..} on one line, the name a local -/
theorem ps_setDc {i : Nat} {y : Str} {py : Pos} {kx vx tg iter : Expr} {ifs : List Expr} {scope : Scope} {own : List (Str × Nat)} {pos spos : Pos} {wi : TI} {g : TG} {tt : TT} {tk tv : TE} (hc : X.calm = true) (hN : X.N.Nodup) (hy : X.N[i]? = some y) (hyl : X.env.scope.names.lookup y = some .local)
    (hsw : swapsWith (.DictComp kx vx [⟨tg, iter, ifs, 0⟩] scope pos) (some (.Name y py)) spos.line X.env = pure true) (hi : PI X tg iter wi) (ok : BlkOk X.N X.env.scope scope own)
    (hg : ∀ (s : Shared) (H : Hp) (C : Addr) (cl : List (Str × Addr)) (fp : List Addr), PG (X.blk s H scope (compEnvC scope cl C X.env) fp) tg g) (ht : ∀ (s : Shared) (H : Hp) (C : Addr) (cl : List (Str × Addr)) (fp : List Addr), PTs (X.blk s H scope (compEnvC scope cl C X.env) fp) ifs tt)
    (hk : ∀ (s : Shared) (H : Hp) (C : Addr) (cl : List (Str × Addr)) (fp : List Addr), PE (X.blk s H scope (compEnvC scope cl C X.env) fp) kx tk)
    (he : ∀ (s : Shared) (H : Hp) (C : Addr) (cl : List (Str × Addr)) (fp : List Addr), PE (X.blk s H scope (compEnvC scope cl C X.env) fp) vx tv) (hs : ∀ x, foldedSetIterable iter X.env x = pure x := by intro _; rfl) :
    PS X (.Assign [.Name y py] (.DictComp kx vx [⟨tg, iter, ifs, 0⟩] scope pos) spos) (tAsg (tDc wi g tt tk tv (own.map (·.2))) (gName i)) := by
  refine ⟨fun pins s σ H D I h => ?_⟩
  rw [exec_Assign_Name_used _ _ _ _ hsw]
  refine wpAny_bind (wpAny_standAt (wpAny_bind ?_))
  show wpAny _ X.A (do let _ ← comprehension (.DictComp kx vx [⟨tg, iter, ifs, 0⟩] scope pos) scope X.env _ newDict false (eval iter X.env) (some (assign (.Name y py) X.env))) _ _ s
  have h : tDc wi g tt tk tv (own.map (·.2)) σ H (fun x H1 => gName i x σ H1 D.nx) := h
  refine wpAny_bind (thn (dc_core (Qf := fun _ s' => SP X pins D .next s') hc hN I hi ok hg ht hk he hs h fun L C s' m H' I' q hn f => ?_) fun _ s' hq => wpAny_pure (wpAny_pure hq))
  show wpAny _ _ (assign (.Name y py) X.env (.ref L)) _ _ _
  refine wpAny_assign_Name (store_ok2 (v := V.ref L) I' hN hy (.inl hyl) rfl (fun s2 I2 ⟨a, sb, ha⟩ => ?_) (.inr hyl))
  obtain ⟨f0, f1, f2, f3, f4, f5⟩ := f
  have haC : C ≠ a := by
    rcases ha with z | z
    · rw [z]; exact f1
    · exact fun e => f4 y a z e.symm
  refine ⟨m, hn.sameBut sb haC, fun h3 sb3 => ?_⟩
  exact ⟨_, H', I2.turned (t' := s2.toks) (fun b o hb e => (sb3.2 b hb).trans e) f0 f1 f3 f4 f5, q⟩
end
end Gx
namespace Gx
open PySem PySem.Spec PyProof.Rows L2
/-- a statement that is never reached -/
def sNo : TS := fun _ _ _ => False
theorem ps_no {X : Cx} {st : Stmt} : PS X st sNo := ⟨fun _ _ _ _ _ _ h => h.elim⟩
theorem no {D : Ends} {σ : L2.St} {H : Hp} (h : False) : sNo D σ H := h
end Gx
namespace Gx
open PySem PySem.Spec PyProof.Rows L2
theorem gsub {to ti : TE} {t : TSet} {v : V} {σ : L2.St} {H : Hp} {Q : L2.St → Hp → Prop} (h : to σ H fun o H1 => ti σ H1 fun i H2 => t o i v H2 fun H3 => Q σ H3) : gSub to ti t v σ H Q := h
theorem neB {a b : Bool} {H : Hp} {Q : VK} (h : Q (.bl (a != b)) H) : rNe (.bl a) (.bl b) H Q := ⟨rfl, by
  have e : (!decide (V.bl a = V.bl b)) = (a != b) := by cases a <;> cases b <;> rfl
  rw [e]
  exact h⟩
theorem setL {p : Addr} {xs : List V} {k : Int} {j : Nat} {v : V} {H : Hp} {Q : Hp → Prop} (hp : H p = some (.lst xs)) (e : k = j) (l : j < xs.length) (h : Q (upd H p (.lst (xs.set j v)))) : rSetL (.ref p) (.int k) v H Q := ⟨p, xs, k, j, rfl, rfl, hp, by
  subst e
  unfold ixN
  simp [l], h⟩
end Gx
/-! ### a dict of the module: texts to numbers -/
namespace Gx
open PySem PySem.Spec PyProof.Rows L2
def ivs : List DictEntry → Option (List (Str × Int))
  | [] => some []
  | e :: r => match e.key, e.val, ivs r with
    | .str x _, .int i _, some l => some ((x, i) :: l)
    | _, _, _ => none
def intsW (K : PySem.W.Frag) (a : Addr) : Option (List (Str × Int)) := match K.lookup a with
  | some ⟨_, _, .dict es _, _⟩ => ivs es.toList
  | _ => none
/-- at a: a dict of the module with these texts and numbers -/
def KIv (K : PySem.W.Frag) (w : World) (a : Addr) (kvs : List (Str × Int)) : Prop := ∃ es n, K.lookup a = some ⟨.type "dict", none, .dict es n, #[]⟩ ∧ PySem.W.KeysLit w.params es.toList ∧ (a == sysModules) = false ∧ ivs es.toList = some kvs
theorem kiv_of {K : PySem.W.Frag} {w : World} {a : Addr} {ks : List Str} {kvs : List (Str × Int)} (h : He.dicW K a = some (He.keysIn w.params ks)) (g : intsW K a = some kvs) : KIv K w a kvs := by
  obtain ⟨es, n, q⟩ := He.dicW_ok h
  unfold intsW at g
  rw [q.at_] at g
  exact ⟨es, n, q.at_, q.lit, q.low, g⟩
def getS (kvs : List (Str × Int)) (x : Str) : Option Int := match kvs with
  | [] => none
  | (y, i) :: r => if (y == x) = true then some i else getS r x
theorem find_iv {x : Str} : ∀ {l : List DictEntry} {kvs : List (Str × Int)}, ivs l = some kvs → (l.any (·.refKey) = false) ∧ ((l.find? (·.key.isStr x) = none ∧ getS kvs x = none) ∨ ∃ e i t, l.find? (·.key.isStr x) = some e ∧ e.val = .int i t ∧ getS kvs x = some i)
  | [], kvs, h => by
    cases h
    exact ⟨rfl, .inl ⟨rfl, rfl⟩⟩
  | e :: r, kvs, h => by
    unfold ivs at h
    split at h
    · rename_i y t i u l hk hv hl
      cases h
      obtain ⟨h1, h2⟩ := find_iv (x := x) hl
      refine ⟨?_, ?_⟩
      · rw [List.any_cons, h1, Bool.or_false]
        unfold DictEntry.refKey
        rw [hk]
      · rw [List.find?_cons, hk, getS]
        show (match (y == x) with | true => some e | false => r.find? (·.key.isStr x)) = none ∧ _ ∨ _
        by_cases c : (y == x) = true
        · rw [c, if_pos rfl]
          exact .inr ⟨e, i, u, by show (match (y == x) with | true => some e | false => r.find? (·.key.isStr x)) = some e; rw [c], hv, rfl⟩
        · rw [Bool.not_eq_true] at c
          rw [c]
          rcases h2 with ⟨a, b⟩ | ⟨e', i', t', a, b, d⟩
          · exact .inl ⟨a, by rw [if_neg (by decide)]; exact b⟩
          · exact .inr ⟨e', i', t', by show (match (y == x) with | true => some e | false => r.find? (·.key.isStr x)) = some e'; rw [c]; exact a, b, by rw [if_neg (by decide)]; exact d⟩
    · cases h
theorem ns_iv {K : PySem.W.Frag} {a : Addr} {es : Array DictEntry} {n : Nat} {kvs : List (Str × Int)} (x : Str) (h : K.lookup a = some ⟨.type "dict", none, .dict es n, #[]⟩) (g : ivs es.toList = some kvs) :
    ∃ u, PySem.W.nsIn K a x = some u ∧ ((u = none ∧ getS kvs x = none) ∨ ∃ i t, u = some (.int i t) ∧ getS kvs x = some i) := by
  obtain ⟨h1, h2⟩ := find_iv (x := x) g
  unfold PySem.W.nsIn
  rw [h]
  rcases h2 with ⟨a, b⟩ | ⟨e, i, t, a, b, d⟩
  · exact ⟨none, by dsimp only; rw [a]; dsimp only; rw [h1]; rfl, .inl ⟨rfl, b⟩⟩
  · exact ⟨some e.val, by dsimp only; rw [a], .inr ⟨i, t, by rw [b], d⟩⟩
/-- D.get(y, z), D a dict of the module -/
def tKGet (kvs : List (Str × Int)) (ty tx : TE) : TE := fun σ H Q => ty σ H fun y H1 => tx σ H1 fun z H2 => ∃ x, y = .str x ∧ Q (((getS kvs x).map V.int).getD z) H2
theorem pe_kget {X : Cx} {a : Addr} {x : Str} {kvs : List (Str × Int)} {e f : Expr} {ty tx : TE} {p apos cpos : Pos} (kf : KIv X.K X.w a kvs) (gC : X.mg x = some (.ref a)) (hg : Gl X x) (he : PE X e ty) (hf : PE X f tx) (m : M2 X (.Name x p) "get" apos e f cpos) (hdb : (x == ("__debug__" : Str)) = false := by decide) :
    PE X (.Call (.Attribute (.Name x p) "get" apos) [e, f] [] cpos) (tKGet kvs ty tx) := by
  refine ⟨fun pins s σ H Q I h => ?_⟩
  obtain ⟨es, n, hl, hk, low, hv⟩ := kf
  refine wpAny_Call_method m.base m.few m.line PySem.F.plainAttrs_dict PySem.F.slot_dict_get PySem.F.type_dict_get (ld_glob I hg gC ?_ hdb)
  have hm := PySem.W.mapOf_K (prog := X.prog) (w := X.w) I.kIn hl hk
  refine ⟨hm.typeIs, fun b q => ?_, ?_⟩
  · cases q
    exact ⟨_, I.kIn _ _ hl, rfl⟩
  rw [m.trees]
  refine Calls.callWith_builtin rfl (Calls.evalArgs_plain (Calls.spliced_cons (thn (he.run pins s σ H _ I h) fun iv s2 ⟨y, H2, I2, ry, q2⟩ =>
    Calls.spliced_cons (thn (hf.run pins s2 σ H2 _ I2 q2) fun fv s3 ⟨z, H3, I3, rz, x, ey, q3⟩ => Calls.spliced_nil ?_))))
  subst ey
  obtain ⟨t, rfl⟩ := (show ∃ t, iv = Value.str x t from ry)
  have hm3 := PySem.W.mapOf_K (prog := X.prog) (w := X.w) I3.kIn hl hk
  refine call_meetsIn PySem.F.slot_dict_get hm3.typeIs PySem.F.entry_dict_get (PySem.F.args_dict_get_3 _ _ _) (meets_dict_get_default (strKind X.prog X.w) a (strKind_is X.prog X.w x t) low fv) ⟨_, hm3, ?_⟩
  obtain ⟨u, hu, h3⟩ := ns_iv x hl hv
  rw [PySem.W.find_K hl hu]
  rcases h3 with ⟨rfl, e1⟩ | ⟨i, t', rfl, e1⟩
  · rw [e1] at q3
    exact ⟨_, H3, I3.tok _, rz, q3⟩
  · rw [e1] at q3
    exact ⟨.int i, H3, I3.tok _, ⟨_, rfl⟩, q3⟩
theorem kget {kvs : List (Str × Int)} {ty tx : TE} {σ : L2.St} {H : Hp} {Q : VK} (h : ty σ H fun y H1 => tx σ H1 fun z H2 => ∃ x, y = .str x ∧ Q (((getS kvs x).map V.int).getD z) H2) : tKGet kvs ty tx σ H Q := h
end Gx
/-! ### for over a text -/
namespace Gx
open PySem PySem.Spec PyProof.Rows L2
section
variable {σ : L2.St} {H : Hp} {D : Ends} {te : TE}
theorem istr {R : It → Hp → Prop} (h : te σ H fun v H1 => ∃ x, v = .str x ∧ R (Its x) H1) : iStr te σ H R := h
theorem for_str {l : List Nat} {g : TG} {tb : TS} (Pv : Nat → L2.St → Hp → Prop) (h0 : Pv 0 σ H)
    (hs : ∀ i c σ H, l[i]? = some c → Pv i σ H → g (.str (mkS [c])) σ H fun σ2 H2 => tb { D with nx := Pv (i + 1), ct := Pv (i + 1), bk := D.nx } σ2 H2) (hd : ∀ σ H, Pv l.length σ H → D.nx σ H) :
    ∃ W : Nat → Nat → L2.St → Hp → Prop, (∃ m, W 0 m σ H) ∧ ∀ i m σ H, W i m σ H →
      ((Its (mkS l)).stop i H ∧ D.nx σ H) ∨ ((Its (mkS l)).go i H ∧ ∃ N : L2.St → Hp → Prop, (∀ σ' H', N σ' H' → ∃ m', m' < m ∧ W (i + 1) m' σ' H') ∧ ∀ x H', (Its (mkS l)).yld i H x H' → g x σ H' fun σ2 H2 => tb { D with nx := N, ct := N, bk := D.nx } σ2 H2) := by
  have hz : (mkS l).cps.size = l.length := by simp [mkS]
  refine ⟨fun i m σ H => m = l.length - i ∧ i ≤ l.length ∧ Pv i σ H, ⟨l.length, by simp, Nat.zero_le _, h0⟩, ?_⟩
  rintro i m σ H ⟨rfl, hi, p⟩
  by_cases hlt : i < l.length
  · refine .inr ⟨by show i < (mkS l).cps.size; omega, Pv (i + 1), fun σ' H' p' => ⟨l.length - (i + 1), by omega, rfl, hlt, p'⟩, ?_⟩
    rintro x H' ⟨rfl, c, hc, rfl⟩
    exact hs i c σ _ (by simpa [mkS] using hc) p
  · have e : i = l.length := by omega
    subst e
    exact .inl ⟨by show (mkS l).cps.size ≤ l.length; omega, hd σ H p⟩
end
end Gx
/-! ### enumerate(a tuple) -/
namespace Gx
open PySem PySem.Spec PyProof.Rows L2
open AutoSeq1 (wpAny_loadPart')
theorem meets_enum_tup (l : Addr) (items : Array Value) (n : Nat) (dct : Option Addr) (sl : Array (Option Value)) :
    Meets (Builtin.«enumerate.__new__» ⟨[.type "enumerate", .ref l], []⟩) (fun _ R s => s.heap.get? l = some { cls := .type "tuple", dict := dct, data := .seq items n, slots := sl } ∧
      R (.ok (.ret (.ref (s.heap.push { cls := .type "tuple_iterator", data := .fields #[.ref l, .int 0 0] }).objs.size)))
        { s with heap := (s.heap.push { cls := .type "tuple_iterator", data := .fields #[.ref l, .int 0 0] }).push { cls := .type "enumerate", data := .fields #[.none, .bool false, .ref s.heap.objs.size, rawInt 0, .none, .none] } }) :=
  .of_wp fun prog w A R s h => by
    obtain ⟨hp, g, d, tk, os⟩ := s; obtain ⟨hl, h⟩ := h
    have hsub := sub_enumerate
    have hL : Heap.IsTuple (Shared.heap ⟨hp, g, d, tk, os⟩) l items := ⟨_, hl, rfl, n, rfl⟩
    wp_walk using wpAny_loadPart' hl
    refine wpAny_stack_any fun st => wpAny_pure ?_
    split
    · rename_i c _ _ _ _ _
      cases (c == Value.type "enumerate")
      · wp_walk using wpAny_loadPart' hl, wpAny_pyIter_tuple hL
        exact ⟨_, rfl, h⟩
      · wp_walk using wpAny_loadPart' hl, wpAny_pyIter_tuple hL
        exact ⟨_, rfl, h⟩
    · wp_walk using wpAny_loadPart' hl, wpAny_pyIter_tuple hL
      exact ⟨_, rfl, h⟩
section
variable {prog : Program} {w : World} {A : Around} {E : Value → Shared → Prop} {s : Shared}
theorem call_enum_tup {l : Addr} {items : Array Value} {Q : Value → Shared → Prop} (hL : s.heap.IsTuple l items)
    (h : ∀ h', IsEnum h' (s.heap.objs.size + 1) s.heap.objs.size 0 .none → h'.IsTupleIter s.heap.objs.size l 0 → h'.objs.size = s.heap.objs.size + 2 →
      (∀ b o, s.heap.get? b = some o → h'.get? b = some o) → Q (.ref (s.heap.objs.size + 1)) { s with heap := h' }) :
    wpAny (model prog w) A (PySem.call (.type "enumerate") [.ref l]) Q E s := by
  obtain ⟨⟨c, dct, dt, sl⟩, hl, hc, n, hd⟩ := hL
  replace hc : c = .type "tuple" := hc
  replace hd : dt = .seq items n := hd
  subst hc hd
  refine callType_new F.called_enumerate (by decide) (F.typeCall_enumerate_1 _) (F.newCall_enumerate_1 _) (fun obj => F.args_object_init_2 obj _) F.entry_enumerate_new
    (meets_enum_tup l items n dct sl) ⟨hl, ?_⟩
  have hz : (s.heap.push { cls := .type "tuple_iterator", data := .fields #[.ref l, .int 0 0] }).objs.size = s.heap.objs.size + 1 := Heap.size_push ..
  show _ ∧ _
  rw [hz]
  have he : IsEnum ((s.heap.push { cls := .type "tuple_iterator", data := .fields #[.ref l, .int 0 0] }).push
      { cls := .type "enumerate", data := .fields #[.none, .bool false, .ref s.heap.objs.size, rawInt 0, .none, .none] }) (s.heap.objs.size + 1) s.heap.objs.size 0 .none := by
    have := Heap.get?_push_size (s.heap.push { cls := .type "tuple_iterator", data := .fields #[.ref l, .int 0 0] })
      (o := { cls := .type "enumerate", data := .fields #[.none, .bool false, .ref s.heap.objs.size, rawInt 0, .none, .none] }) rfl
    rw [hz] at this; exact this
  refine ⟨⟨_, he, rfl⟩, h _ he ⟨_, Heap.get?_push_of_some _ (Heap.get?_push_size _ rfl), rfl, rfl⟩ (by rw [Heap.size_push, hz]) fun b o x => Heap.get?_push_of_some _ (Heap.get?_push_of_some _ x)⟩
theorem draws_tup (hh : A.handled = none) (it t : Addr) (hne : t ≠ it) (items : Array Value) :
    Draws prog w A it [it, t] items.size (fun i v => items[i]? = some v) (fun i h => h.IsTupleIter it t i ∧ h.IsTuple t items) where
  live := fun i h st => let ⟨o, ho, _⟩ := st.1; ⟨o, ho⟩
  frame := fun i h h' st k => ⟨st.1.at fun o q => k it (by simp) o q, let ⟨o, ho, r⟩ := st.2; ⟨o, k t (by simp) o ho, r⟩⟩
  item := fun i s Q E hi st hQ => by
    refine PySem.wpAny_nextOf_tuple_item st.1 st.2 (x := items[i]) (by simp [hi]) fun h' n1 b1 => ?_
    exact hQ _ h' s.toks (by simp [hi]) ⟨n1, let ⟨o, ho, r⟩ := st.2; ⟨o, b1.extBut _ _ hne ho, r⟩⟩ b1
  done := fun s Q E st hE => PySem.wpAny_nextOf_tuple_end hh st.1 st.2 (by simp) fun h' e k o => hE h' e k o
end
/-- the tuple at a, each item in a new pair -/
def IteT (K : PySem.W.Frag) (a : Addr) : It :=
  ⟨fun i H => ∃ (xs : List V) (x : V), SqT K H a xs ∧ xs[i]? = some x, fun i H v H' => ∃ T x, v = .ref T ∧ H T = none ∧ H' = upd H T (.tup [.int (i : Nat), x]) ∧ ∀ xs, SqT K H a xs → xs[i]? = some x, fun i H => ∃ xs : List V, SqT K H a xs ∧ xs.length ≤ i⟩
theorem turn_enumT {P : Program} {w : World} {K : PySem.W.Frag} {elts : List Expr} {kk : Nat} {tpos : Pos} (a e it : Addr) :
    Turn P w K (.Tuple elts kk tpos) (IteT K a) [e, it] e (fun i h => (∃ old, IsEnum h e it ((i : Nat) : Int) old) ∧ h.IsTupleIter it a i ∧ e ≠ it) where
  mem := by simp
  obj := fun i h st b hb => by
    obtain ⟨⟨old, he⟩, ⟨o, ho, hc, hd⟩, _⟩ := st
    have e' : b = e ∨ b = it := by simpa using hb
    rcases e' with z | z
    · rw [z]; exact ⟨_, he, fun v q => nomatch q⟩
    · rw [z]; exact ⟨o, ho, fun v q => by rw [hd] at q; cases q⟩
  keep := fun i h h' st k => let ⟨⟨old, he⟩, hi, hne⟩ := st; ⟨⟨old, k e (by simp) _ he⟩, hi.at fun o q => k it (by simp) o q, hne⟩
  item := by
    intro X hP hw hK hc i pins s σ H E I hf st hg
    subst hP hw hK
    obtain ⟨⟨old, he⟩, hit, hne⟩ := st
    obtain ⟨xs, x, hq, hx⟩ := hg
    obtain ⟨its, rv, p, hz⟩ := I.tuple hq
    replace p : s.heap.IsTuple a its.toArray := p
    obtain ⟨u, hu, ru⟩ := rv.get hx
    have hel : e < s.heap.objs.size := Heap.lt_size he
    have hil : it < s.heap.objs.size := by obtain ⟨_, q, _⟩ := hit; exact Heap.lt_size q
    have hae : a ≠ e := fun z => by
      obtain ⟨o, ho, hcl, _⟩ := id p
      rw [z, he] at ho
      cases ho
      exact absurd (show Value.type "enumerate" = .type "tuple" from hcl) (by decide)
    have hai : a ≠ it := fun z => by
      obtain ⟨o, ho, hcl, _⟩ := id p
      obtain ⟨o', ho', hcl', _⟩ := id hit
      rw [z, ho'] at ho
      cases ho
      rw [hcl'] at hcl
      exact absurd hcl (by decide)
    have hlt : i < its.toArray.size := by
      have := (List.getElem?_eq_some_iff.mp hu).1
      simpa using this
    refine wpAny_pyNext_enum_itemD (draws_tup (A := X.A.in1) (I.ok.hd hc) it a hai its.toArray) he ⟨hit, p⟩ hlt hne (by simp; exact ⟨hne, Ne.symm hae⟩) fun u' h' tk hPx ho hst' hT hsz hk => ?_
    have eu : u' = u := by
      have h1 : its.toArray[i]? = some u' := hPx
      have h2 : its.toArray[i]? = some u := by simpa using hu
      rw [h1] at h2
      exact Option.some.inj h2
    subst eu
    refine ⟨_, rfl, wpAny_letOwnedTupleGo_enum (s := { s with heap := h', toks := tk + 1 }) ho fun h'' he' sb => ?_⟩
    have hT2 : h''.get? s.heap.objs.size = some { cls := .type "tuple", data := .seq #[.int i tk, u'] } := (sb.2 _ (Nat.ne_of_gt hel)).trans hT
    have new : ObjOk X.prog X.w (upd H s.heap.objs.size (.tup [.int (i : Nat), x])) h'' s.heap.objs.size (.tup [.int (i : Nat), x]) :=
      ⟨by show 2 ≤ sizeLine; decide, [.int i tk, u'], .cons ⟨_, rfl⟩ (.cons ru .nil), ⟨_, hT2, rfl, _, rfl⟩⟩
    have I1 : Inv X pins σ (upd H s.heap.objs.size (.tup [.int (i : Nat), x])) { s with heap := h'', toks := tk + 1 } :=
      I.turnedNew (ch := [e, it]) (fun b ob hb q => (sb.2 b (fun z => hb (by simp [z]))).trans (hk b ob (fun z => hb (by simp [z])) (fun z => hb (by simp [z])) q)) hf (Nat.le_refl _) new
    refine ⟨.ref s.heap.objs.size, _, I1, rfl, ⟨_, x, rfl, I.hok.fresh (Nat.le_refl _), rfl, fun ys hy => by rw [I.tuple_inj hy hq]; exact hx⟩, ⟨⟨u', ?_⟩, hst'.1.at fun o q => (sb.2 it (Ne.symm hne)).trans q, hne⟩, fun b hb => ?_⟩
    · have e1 : ((i + 1 : Nat) : Int) = (i : Int) + 1 := by omega
      rw [e1]; exact he'
    · have hb' : b < s.heap.objs.size := by
        have e' : b = e ∨ b = it := by simpa using hb
        rcases e' with z | z
        · rw [z]; exact hel
        · rw [z]; exact hil
      rw [upd_ne (Nat.ne_of_lt hb')]
      exact (hf b hb).1
  done := by
    intro X hP hw hK hc i pins s σ H E I hf st hg
    subst hP hw hK
    obtain ⟨⟨old, he⟩, hit, hne⟩ := st
    obtain ⟨xs, hq, hx⟩ := hg
    obtain ⟨its, rv, p, hz⟩ := I.tuple hq
    replace p : s.heap.IsTuple a its.toArray := p
    obtain ⟨f0, f1, f2, f3, f4, f5⟩ := hf it (by simp)
    have hl := rv.length
    have hai : a ≠ it := fun z => by
      obtain ⟨o, ho, hcl, _⟩ := id p
      obtain ⟨o', ho', hcl', _⟩ := id hit
      rw [z, ho'] at ho
      cases ho
      rw [hcl'] at hcl
      exact absurd hcl (by decide)
    have hT : s.TypeIs (.ref e) "enumerate" := ⟨_, he, rfl⟩
    unfold pyNext
    refine wpAny_bind (wpAny_attempt (wpAny_callSpecial?_slot (name := Str.ofString "__next__") hT F.slot_enumerate_next
      (wpAny_call_entry F.slot_enumerate_next hT F.entry_enumerate_next ?_ (F.args_enumerate_next_1 _))))
    show wpAny _ _ (field (.ref e) 2 >>= _) _ _ _
    refine wpAny_bind (wpAny_field he rfl (x := .ref it) rfl ?_)
    refine wpAny_bind (PySem.wpAny_nextOf_tuple_end (A := X.A.in1) (I.ok.hd hc) hit p (by simp; omega) fun h' y he' hx' => ?_)
    obtain ⟨o, ho, hcl⟩ := hx'
    refine wpAny_bind (wpAny_isInstance (T := "StopIteration") (b := true) ⟨o, ho, hcl⟩ isSubtype_stop ?_)
    exact wpAny_pure ⟨rfl, I.turned (t' := s.toks) (fun b o hb q => he' b o hb q) f0 f1 f3 f4 f5⟩
  self := fun A i s Q E st h => let ⟨⟨_, he⟩, _⟩ := st; wpAny_pyIter_enum he h
def iEnumT (K : PySem.W.Frag) (ta : TA) : TI := fun σ H R => ta σ H fun vs H1 => ∃ a xs, vs = [.ref a] ∧ SqT K H1 a xs ∧ R (IteT K a) H1
theorem pi_enumT {X : Cx} {e : Expr} {ta : TA} {p pos tpos : Pos} {elts : List Expr} {kk : Nat} (hg : Gl X "enumerate") (hm : X.mg "enumerate" = none) (ha : PA X [e] ta) (hs : starEach [e] X.env = [(false, eval e X.env)] := by rfl) :
    PI X (.Tuple elts kk tpos) (.Call (.Name "enumerate" p) [e] [] pos) (iEnumT X.K ta) := by
  refine ⟨fun pins s σ H R I h => ?_⟩
  refine Call_ (ld_blt I hg hm boot_enumerate (PyProof.Rows.callWith_type1 (thn (ha.run pos pins s σ H _ I h) fun us s1 ⟨vs, H1, I1, r1, q1⟩ => ?_) hs rfl))
  obtain ⟨a, xs, ex, hq, q⟩ := q1
  subst ex
  cases r1 with
  | cons r rr =>
    cases rr
    cases r
    obtain ⟨its, rv, p', hz⟩ := I1.tuple hq
    refine call_enum_tup (items := its.toArray) p' fun h' he hit hsz hk => wpAny_pyIter_enum he ?_
    have I2 : Inv X pins σ H1 { s1 with heap := h' } := I1.kept (t' := s1.toks) hk
    refine ⟨s1.heap.objs.size + 1, [s1.heap.objs.size + 1, s1.heap.objs.size], _, _, H1, rfl, I2, turn_enumT a (s1.heap.objs.size + 1) s1.heap.objs.size, ⟨⟨.none, he⟩, hit, Nat.succ_ne_self _⟩, fun b hb => ?_, q⟩
    have e' : b = s1.heap.objs.size + 1 ∨ b = s1.heap.objs.size := by simpa using hb
    have hle : s1.heap.objs.size ≤ b := by
      rcases e' with z | z
      · rw [z]; exact Nat.le_add_right _ _
      · rw [z]; exact Nat.le_refl _
    exact I1.fpOk hle (I1.hok.fresh hle)
theorem walk_enumT {K : PySem.W.Frag} {a : Addr} {xs : List V} : Walk (IteT K a) xs.length (fun H => SqT K H a xs) (YPair (fun i => some (.int (i : Nat))) (fun i => xs[i]?)) := by
  refine ⟨fun i _ hi q => ⟨xs, xs[i], q, by simp [hi]⟩, fun _ q => ⟨xs, q, Nat.le_refl _⟩, fun i H v H' _ q y => ?_⟩
  obtain ⟨T, x, h1, h2, h3, h4⟩ := y
  exact ⟨T, .int (i : Nat), x, h1, h2, h3, rfl, h4 xs q⟩
theorem ienumT {K : PySem.W.Frag} {ta : TA} {σ : L2.St} {H : Hp} {R : It → Hp → Prop} (h : ta σ H fun vs H1 => ∃ a xs, vs = [.ref a] ∧ SqT K H1 a xs ∧ R (IteT K a) H1) : iEnumT K ta σ H R := h
theorem iitems {td : TE} {σ : L2.St} {H : Hp} {R : It → Hp → Prop} (h : td σ H fun x H1 => ∃ d o kvs, x = .ref d ∧ H1 d = some (.frz o (.dK kvs)) ∧ R (Iti d o kvs) H1) : iItems td σ H R := h
theorem ikeys {td : TE} {σ : L2.St} {H : Hp} {R : It → Hp → Prop} (h : td σ H fun x H1 => ∃ d o, x = .ref d ∧ ((∃ kvs, H1 d = some (.frz o (.dK kvs)) ∧ R (Itk d o kvs) H1) ∨ ∃ kvs, H1 d = some (.frz o (.dT kvs)) ∧ R (Itkt d o kvs) H1)) : iKeys td σ H R := h
/-! ### list(d.values()) -/
def tListVals (te : TE) : TE := fun σ H Q => te σ H fun x H1 => ∃ (d : Addr) (kvs : List (Key × V)), x = .ref d ∧ H1 d = some (.dK kvs) ∧ ∀ p, H1 p = none → Q (.ref p) (upd H1 p (.lst (kvs.map (·.2))))
theorem pe_listVals {X : Cx} {e : Expr} {te : TE} {p apos cpos pos : Pos} (hc : X.calm = true) (he : PE X e te) (hg : Gl X "list") (hm : X.mg "list" = none) (hv : bootBuiltins "list" = some (.type "list")) (hbase : attributeBase e "values" X.env (eval e X.env) = eval e X.env := by rfl) (hline : (apos.endLine == cpos.line) = true := by rfl)
    (hs : starEach [.Call (.Attribute e "values" apos) [] [] cpos] X.env = (false, eval (.Call (.Attribute e "values" apos) [] [] cpos) X.env) :: starEach [] X.env := by rfl) :
    PE X (.Call (.Name "list" p) [.Call (.Attribute e "values" apos) [] [] cpos] [] pos) (tListVals te) := by
  refine ⟨fun pins s σ H Q I hq => ?_⟩
  refine wpAny_Call_Name_kw (ld_blt I hg hm hv ?_)
  refine PyProof.Rows.callWith_type1 ?_ hs rfl
  rw [hs]
  show wpAny _ _ (spliced ((false, eval (.Call (.Attribute e "values" apos) [] [] cpos) X.env) :: backTo pos (starEach [] X.env))) _ _ s
  refine Calls.spliced_cons ?_
  refine wpAny_Call_method (T := "dict") (id := "dict.values") hbase rfl hline F.plainAttrs_dict F.slot_dict_values F.type_dict_values (thn (he.run pins s σ H _ I hq) fun u s1 ⟨x, H1, I1, rx, d, kvs, ex, hd, q⟩ => ?_)
  subst ex
  obtain rfl : u = Value.ref d := rx
  obtain ⟨hz, hs0, vs, kv, hdo⟩ := I1.hok d _ hd
  obtain ⟨ep, hat⟩ := hdo.dictAt
  have lk : kvs.length = vs.length := Paired.length kv
  have I2 : Inv X pins σ H1 { s1 with heap := s1.heap.push { cls := .type "dict_values", data := .fields #[.ref d] } } := I1.kept (t' := s1.toks) fun b ob q => Heap.get?_push_of_some _ q
  refine ⟨hdo.typeIs, hdo.mapOf.noDict, ?_⟩
  show wpAny _ _ (callWith cpos (.builtin "dict.values") [.ref d] [] []) _ X.xe s1
  refine method_meetsIn F.slot_dict_values F.entry_dict_values rfl (PySem.evalArgs_none ⟨rfl, hdo.typeIs, F.args_dict_values_1 _, _, meets_dict_values (mixKind X.prog X.w) d hs0, ⟨vs, hdo⟩, ?_⟩)
  refine Calls.spliced_nil ?_
  refine PySem.W.kdl_call (PySem.W.kdl_values (knd := mixKind X.prog X.w) (kvs := vs) (ep := ep)) (I1.ok.hd hc) ⟨⟨_, Heap.get?_push_size _ rfl, rfl, rfl⟩, hat.push _⟩ (by rw [← lk]; exact hz) fun h' tk acc' c' hkeep hS hacc => ?_
  have hlv : (kvs.map (·.2)).length ≤ sizeLine := by rw [List.length_map]; exact hz
  refine ⟨.ref _, upd H1 _ (.lst (kvs.map (·.2))), I2.laid (t' := tk) hkeep (Nat.le_refl _) (show ObjOk X.prog X.w _ _ _ (.lst (kvs.map (·.2))) from ⟨hlv, acc'.toList, c', ?_, ?_⟩), rfl, q _ (I2.hok.fresh (Nat.le_refl _))⟩
  · have el : acc'.toList.length = acc'.size := by simp
    refine vals_of_at (by rw [List.length_map, el, hacc.1, lk]) fun j x w h1 h2 => ?_
    obtain ⟨k, hky⟩ := hacc.2 j w (by rw [← Array.getElem?_toList]; exact h2)
    rw [List.getElem?_map] at h1
    cases hkj : kvs[j]? with
    | none => rw [hkj] at h1; cases h1
    | some pk =>
      rw [hkj] at h1
      cases h1
      obtain ⟨qv, g1, g2, g3⟩ := LiI.paired_get kv hkj
      rw [hky] at g1
      cases g1
      exact g3
  · rw [Array.toArray_toList]; exact hS
end Gx
/-! ### f(e, .., k = v, ..) inside a try; len(set(ints)) -/
namespace Gx
open PySem PySem.Spec PyProof.Rows L2
section
variable {X : Cx} {CX : CXT} {k n : Nat} {f : Addr} {fd : FuncData} {ps ks : List Str} {sp : Sp} {E : L2.St → XK} {x : Str} {p pos : Pos} {e : Expr} {es : List Expr} {kws : List Keyword} {t tk : TA} {g : List Value → List Value → List Value} {gV : List V → List V → List V}
def tCallNS (n m : Nat) (sp : Sp) (gV : List V → List V → List V) (E : L2.St → XK) (t tk : TA) : TE := fun σ H Q => t σ H fun vs H1 => tk σ H1 fun zs H2 => vs.length = n ∧ zs.length = m ∧ sp (gV vs zs) H2 Q (E σ)
theorem pe_callNS (F : FnOk X.prog X.w X.K X.mg X.base CX k f fd ps sp) (hr : Room k X.A) (hg : Gl X x) (hm : X.mg x = some (.ref f)) (hk : PySem.W.keepIn X.K (.ref f) = true) (hb : KBn X.K fd ps n ks g gV) (hx : ∀ σ, PassesAt CX X σ (E σ))
    (ha : PA X (e :: es) t) (hkw : PK X kws tk) (hall : (backToKw pos (keywordEach kws X.env)).all (·.1.isSome) = true := by rfl) (hks : (backToKw pos (keywordEach kws X.env)).filterMap (·.1) = ks := by rfl)
    (hdb : (x == ("__debug__" : Str)) = false := by decide) (he : starEach (e :: es) X.env = (false, eval e X.env) :: starEach es X.env := by rfl)
    (hpl : ((backTo pos (starEach (e :: es) X.env)).any (·.1) || (backToKw pos (keywordEach kws X.env)).any (·.1.isNone)) = false := by rfl) :
    PE X (.Call (.Name x p) (e :: es) kws pos) (tCallNS n ks.length sp gV E t tk) := by
  refine ⟨fun pins s σ H Q I h => ?_⟩
  refine wpAny_Call_Name_kw (ld_glob I hg hm ?_ hdb)
  refine PySem.W.callWith_KW (h₀ := X.base) I.ok.mod.kin hk hall (thn (ha.run pos pins s σ H _ I h) fun us s1 ⟨vs, H1, I1, r, q⟩ => ?_) hpl he
  refine thn (hkw.run pos pins s1 σ H1 _ I1 q) fun ws s2 ⟨zs, H2, I2, rz, l1, l2, q2⟩ => ⟨I2.kIn, ?_⟩
  rw [hks]
  have r2 := hb.rel r rz
  refine wpAny_call (codeAny_mono (F.run X.A X.stack s2 H2 ⟨us, ks.zip ws⟩ (g us ws) (gV vs zs) Q (E σ) hr I2.env0 (hb.to s2 us ws I2.kIn (r.length.symm.trans l1) (rz.length.symm.trans l2)) r2 q2) fun r s' hq => ?_)
  cases r with
  | error e => exact hx σ pins H2 s2 e s' I2 hq
  | ok fl =>
    cases fl with
    | ret u => exact I2.after hq
    | next => exact False.elim hq
    | brk => exact False.elim hq
    | cont => exact False.elim hq
theorem callN {n m : Nat} {E : XK} {σ : L2.St} {H : Hp} {Q : VK} (h : t σ H fun vs H1 => tk σ H1 fun zs H2 => vs.length = n ∧ zs.length = m ∧ sp (gV vs zs) H2 Q E) : tCallN n m sp gV E t tk σ H Q := h
theorem callNS {n m : Nat} {σ : L2.St} {H : Hp} {Q : VK} (h : t σ H fun vs H1 => tk σ H1 fun zs H2 => vs.length = n ∧ zs.length = m ∧ sp (gV vs zs) H2 Q (E σ)) : tCallNS n m sp gV E t tk σ H Q := h
theorem kOfI (K : PySem.W.Frag) : ∀ {ns : List Int} {us : List Value}, Vals (ns.map V.int) us → PyProof.Rows.IntsAre us ns
  | [], _, .nil => .nil
  | n :: ns, _, .cons r t => by
    obtain ⟨k, rfl⟩ := r
    exact .cons n k (kOfI K t)
/-- len(set(xs)), xs a list of ints -/
def tLenSet (K : PySem.W.Frag) (ta : TE) : TE := fun σ H Q => ta σ H fun x H1 => ∃ (l : Addr) (ns : List Int), x = .ref l ∧ SqL K H1 l (ns.map V.int) ∧ ns.length ≤ 4000 ∧ Q (.int (ns.eraseDups.length : Nat)) H1
theorem pe_lenSet {X : Cx} {a : Expr} {ta : TE} {p p2 q pos : Pos} (hg : Gl X "len") (hm : X.mg "len" = none) (hg2 : Gl X "set") (hm2 : X.mg "set" = none) (ha : PE X a ta) (hc : X.calm = true := by rfl)
    (na : starEach [a] X.env = (false, eval a X.env) :: starEach [] X.env := by rfl) : PE X (.Call (.Name "len" p) [.Call (.Name "set" p2) [a] [] q] [] pos) (tLenSet X.K ta) := by
  refine ⟨fun pins s σ H Q I h => ?_⟩
  refine Call_ (ld_blt I hg hm boot_len ?_)
  refine PyProof.Rows.callWith_builtin1 (PyProof.Rows.args_cons ?_ rfl) rfl rfl
  refine Call_ (ld_blt I hg2 hm2 boot_set ?_)
  refine PyProof.Rows.callWith_type1 (PyProof.Rows.args_cons (thn (ha.run pins s σ H _ I h) fun v s1 ⟨x, H1, I1, r1, q1⟩ => PyProof.Rows.args_nil ?_) na) na rfl
  obtain ⟨l, ns, rfl, hq, hl, q1⟩ := q1
  cases r1
  obtain ⟨its, r, pl, hz⟩ := I1.list hq
  have hlen : its.toArray.size = ns.length := by rw [List.size_toArray, ← r.length, List.length_map]
  refine call_set_list (I1.ok.hd hc) pl.isList (by simpa using kOfI X.K r) (by rw [hlen]; unfold scanBound; omega) fun h' tk hS hk => ?_
  refine PyProof.Rows.args_nil ?_
  rw [hlen, PySem.W.oss_met ns, PySem.W.oss_dups] at hS
  obtain ⟨o, es, ep, t, ho, hex, hd, _, _, _, hf, hn⟩ := hS
  have I2 : Inv X pins σ H1 { s1 with heap := h', toks := tk } := I1.kept fun b o e => hk b o (Heap.lt_size e) e
  have hle : ns.eraseDups.length ≤ ns.length := by rw [← PySem.W.oss_dups]; exact PySem.W.oss_len ns
  exact call_len_set ho hex hd hf (by rw [hn] <;> omega) ⟨.int ns.eraseDups.length, H1, I2.tok _, ⟨_, by rw [hn]⟩, q1⟩
theorem lenSet {K : PySem.W.Frag} {σ : L2.St} {H : Hp} {Q : VK} {ta : TE} (h : ta σ H fun x H1 => ∃ (l : Addr) (ns : List Int), x = .ref l ∧ SqL K H1 l (ns.map V.int) ∧ ns.length ≤ 4000 ∧ Q (.int (ns.eraseDups.length : Nat)) H1) : tLenSet K ta σ H Q := h
theorem listVals {σ : L2.St} {H : Hp} {Q : VK} {te : TE} (h : te σ H fun x H1 => ∃ (d : Addr) (kvs : List (Key × V)), x = .ref d ∧ H1 d = some (.dK kvs) ∧ ∀ p, H1 p = none → Q (.ref p) (upd H1 p (.lst (kvs.map (·.2))))) : tListVals te σ H Q := h
end
/-- a dict made over a walk -/
theorem dc_it {J : It} {n : Nat} {G : Hp → Prop} {Y : Nat → Hp → V → Hp → Prop} (w : Walk J n G Y) {g : TG} {tt : TT} {tk tv : TE} {vs : List Nat} {σ : L2.St} {H1 : Hp} {D : Addr} {Qd : Hp → Prop} (Pv : Nat → Hp → Prop) (h0 : Pv 0 (upd H1 D (.dK []))) (hG : ∀ i H, i ≤ n → Pv i H → G H)
    (hs : ∀ i x H H', i < n → Pv i H → Y i H x H' → g x (wipe σ vs) H' fun σ2 H2 => wipe σ2 vs = wipe σ vs ∧ tt σ2 H2 fun b H3 =>
      if b = true then tk σ2 H3 fun y H4 => tv σ2 H4 fun z H5 => ∃ kvs k, y = kV k ∧ H5 D = some (.dK kvs) ∧ kvs.length < sizeLine ∧ Pv (i + 1) (upd H5 D (.dK (putK kvs k z))) else Pv (i + 1) H3) (hd : ∀ H, Pv n H → Qd H) :
    ∃ W : Nat → Nat → Hp → Prop, (∃ m, W 0 m (upd H1 D (.dK []))) ∧ ∀ i m H, W i m H →
      (J.stop i H ∧ Qd H) ∨ (J.go i H ∧ ∃ Nx : Hp → Prop, (∀ H', Nx H' → ∃ m', m' < m ∧ W (i + 1) m' H') ∧ ∀ x H', J.yld i H x H' → g x (wipe σ vs) H' fun σ2 H2 => wipe σ2 vs = wipe σ vs ∧ tt σ2 H2 fun b H3 =>
        if b = true then tk σ2 H3 fun y H4 => tv σ2 H4 fun z H5 => ∃ kvs k, y = kV k ∧ H5 D = some (.dK kvs) ∧ kvs.length < sizeLine ∧ Nx (upd H5 D (.dK (putK kvs k z))) else Nx H3) := by
  refine ⟨fun i m H => m = n - i ∧ i ≤ n ∧ Pv i H, ⟨n, by simp, Nat.zero_le _, h0⟩, ?_⟩
  rintro i m H ⟨rfl, hi, p⟩
  have q := hG i H hi p
  by_cases hlt : i < n
  · refine .inr ⟨w.goes i H hlt q, Pv (i + 1), fun H' p' => ⟨n - (i + 1), by omega, rfl, hlt, p'⟩, fun x H' y => hs i x H H' hlt p (w.yields i H x H' hlt q y)⟩
  · have e : i = n := by omega
    subst e
    exact .inl ⟨w.stops H q, hd H p⟩
theorem and2T {p1 p2 : Prop} [Decidable p1] [Decidable p2] {tb : TT} {σ : L2.St} {H : Hp} {Q : Bool → Hp → Prop} (hb : p1 → ∀ Q' : Bool → Hp → Prop, Q' (decide p2) H → tb σ H Q') (h : Q (decide (p1 ∧ p2)) H) : if decide p1 = true then tb σ H Q else Q false H := by
  by_cases h1 : p1
  · rw [decide_eq_true h1]
    refine hb h1 _ ?_
    rw [show decide (p1 ∧ p2) = decide p2 from decide_eq_decide.mpr ⟨fun h => h.2, fun h => ⟨h1, h⟩⟩] at h
    exact h
  · rw [decide_eq_false h1]
    rw [show decide (p1 ∧ p2) = false from decide_eq_false fun z => h1 z.1] at h
    exact h
theorem iteV {p : Prop} [Decidable p] {ta tb : TE} {v : V} {σ : L2.St} {H : Hp} {Q : VK} (h1 : p → ∀ Q' : VK, Q' v H → ta σ H Q') (h2 : ¬ p → ∀ Q' : VK, Q' v H → tb σ H Q') (h : Q v H) : if decide p = true then ta σ H Q else tb σ H Q := by
  by_cases hp : p
  · rw [decide_eq_true hp]; exact h1 hp _ h
  · rw [decide_eq_false hp]; exact h2 hp _ h
theorem _root_.L2.DGet.f {H : Hp} {a : Addr} {o : Obj} {kvs : List (Key × V)} {k : Key} (e : H a = some (.frz o (.dK kvs))) : DGet H a (kV k) (valV kvs k) := .inl ⟨kvs, k, .inr ⟨o, e⟩, rfl, rfl⟩
theorem catA {K : PySem.W.Frag} {H : Hp} {Q : VK} {a b : Addr} {xs ys : List V} (ha : SqT K H a xs) (hb : SqT K H b ys) (l : xs.length + ys.length ≤ 16777216) (q : ∀ p H', Same H H' → SqT K H' p (xs ++ ys) → Q (.ref p) H') : rCatA K (.ref a) (.ref b) H Q :=
  ⟨a, b, xs, ys, rfl, rfl, ha, hb, by rw [sizeLine_eq]; exact l, fun e => q b H (Same.refl H) (by rw [e]; exact hb), fun _ e => q a H (Same.refl H) (by rw [e, List.append_nil]; exact ha), fun _ _ p np => q p _ (ext1 np).same (SqT.of upd_same)⟩
theorem slA {K : PySem.W.Frag} {H : Hp} {Q : VK} {a : Addr} {xs : List V} {lo hi : Option Int} (ha : SqT K H a xs) (q : ∀ p H', Same H H' → SqT K H' p (cutV xs lo hi) → Q (.ref p) H') : rSlA K (.ref a) lo hi H Q :=
  ⟨a, xs, rfl, ha, fun e => q a H (Same.refl H) (by unfold cutV; rw [e.1, e.2, List.drop_zero, Nat.sub_zero, List.take_length]; exact ha), fun _ p np => q p _ (ext1 np).same (SqT.of upd_same)⟩
theorem gtup {K : PySem.W.Frag} {n : Nat} {t : TGs} {v : V} {σ : L2.St} {H : Hp} {Q : L2.St → Hp → Prop} (h : ∃ a xs, v = .ref a ∧ SqT K H a xs ∧ xs.length = n ∧ t xs σ H Q) : gTup K n t v σ H Q := h
theorem gcons {t : TG} {u : TGs} {x : V} {xs : List V} {σ : L2.St} {H : Hp} {Q : L2.St → Hp → Prop} (h : t x σ H fun σ' H' => u xs σ' H' Q) : gCons t u (x :: xs) σ H Q := ⟨x, xs, rfl, h⟩
theorem gnil {σ : L2.St} {H : Hp} {Q : L2.St → Hp → Prop} (h : Q σ H) : gNil [] σ H Q := ⟨rfl, h⟩
theorem edups_snoc (l : List Int) (a : Int) : (l ++ [a]).eraseDups = if a ∈ l.eraseDups then l.eraseDups else l.eraseDups ++ [a] := by
  rw [← PySem.W.oss_dups, ← PySem.W.oss_dups, PySem.W.oss_next]
theorem edups_mem {l : List Int} {a : Int} : a ∈ l.eraseDups ↔ a ∈ l := by rw [← PySem.W.oss_dups]; exact PySem.W.oss_has
theorem edups_le (l : List Int) : l.eraseDups.length ≤ l.length := by rw [← PySem.W.oss_dups]; exact PySem.W.oss_len l
theorem edups_rev : ∀ l : List Int, (l.reverse).eraseDups.length = l.length ↔ l.Nodup
  | [] => ⟨fun _ => List.nodup_nil, fun _ => rfl⟩
  | a :: l => by
    have ih := edups_rev l
    have h1 := edups_le l.reverse
    rw [List.length_reverse] at h1
    rw [List.reverse_cons, edups_snoc, List.nodup_cons, List.length_cons]
    have e : a ∈ l.reverse.eraseDups ↔ a ∈ l := by rw [edups_mem, List.mem_reverse]
    by_cases h : a ∈ l
    · rw [if_pos (e.mpr h)]
      exact ⟨fun z => by omega, fun z => absurd h z.1⟩
    · rw [if_neg (fun z => h (e.mp z)), List.length_append, List.length_singleton]
      exact ⟨fun z => ⟨h, ih.mp (by omega)⟩, fun z => by rw [ih.mpr z.2]⟩
theorem edups_nodup {l : List Int} : l.eraseDups.length = l.length ↔ l.Nodup := by
  have h := edups_rev l.reverse
  rw [List.reverse_reverse, List.length_reverse] at h
  refine h.trans ?_
  unfold List.Nodup
  rw [List.pairwise_reverse]
  exact ⟨fun z => z.imp fun w => w.symm, fun z => z.imp fun w => w.symm⟩
end Gx
/-! ### a text as a list of its signs; sorted(text); a text walked in a comprehension; x in D, D[x] of a module dict -/
namespace Gx
open PySem PySem.Spec PyProof.Rows L2
/-- the signs of a text, a text each -/
def signV (l : List Nat) : List V := l.map fun c => V.str (mkS [c])
theorem sign_rel {l : List Nat} {acc : Array Value} (h : ItemsOf (SignAt (mkS l)) acc (mkS l).cps.size) : Vals (signV l) acc.toList := by
  have hz : (mkS l).cps.size = l.length := by simp [mkS]
  have el : acc.toList.length = acc.size := by simp
  refine vals_of_at (by unfold signV; rw [List.length_map, el, h.1, hz]) fun j x w h1 h2 => ?_
  obtain ⟨c, u, hc, rfl⟩ := h.2 j w (by rw [← Array.getElem?_toList]; exact h2)
  have hc' : l[j]? = some c := by simpa [mkS] using hc
  unfold signV at h1
  rw [List.getElem?_map, hc'] at h1
  cases h1
  exact ⟨u, rfl⟩
def rListStr : List V → Hp → VK → Prop := fun xs H Q => ∃ l : List Nat, xs = [.str (mkS l)] ∧ l.length ≤ 16777216 ∧ ∀ p, H p = none → Q (.ref p) (upd H p (.lst (signV l)))
theorem cr_listStr {X : Cx} (hc : X.calm = true) : CallR X (.type "list") rListStr := by
  intro pins s σ H xs us Q I r h
  obtain ⟨l, rfl, hl, q⟩ := h
  obtain ⟨u, rfl, t, rfl⟩ := vals1 r
  have hz : (mkS l).cps.size = l.length := by simp [mkS]
  refine call_list_str (I.ok.hd hc) _ t (fun h' tk acc' c' hk hS hacc => ?_) (by rw [hz, sizeLine_eq]; exact hl)
  refine ⟨.ref s.heap.objs.size, upd H s.heap.objs.size (.lst (signV l)), I.laid hk (Nat.le_refl _) (show ObjOk X.prog X.w _ _ _ (.lst (signV l)) from ⟨?_, acc'.toList, c', sign_rel hacc, ?_⟩), rfl, q _ (I.hok.fresh (Nat.le_refl _))⟩
  · unfold signV
    rw [List.length_map, sizeLine_eq]
    exact hl
  · rw [Array.toArray_toList]; exact hS
/-- one sign -/
def cv : Value → Nat
  | .str x _ => x.cps.getD 0 0
  | _ => 0
def ltCv (v u : Value) : Bool := decide (cv v < cv u)
theorem swo_cv : SrtO.Swo ltCv := by
  refine ⟨fun x y h => ?_, fun x y z h1 h2 => ?_⟩
  · have a := of_decide_eq_true (p := cv x < cv y) h
    exact decide_eq_false (p := cv y < cv x) (by omega)
  · have a := of_decide_eq_false (p := cv y < cv x) h1
    have b := of_decide_eq_false (p := cv z < cv y) h2
    exact decide_eq_false (p := cv z < cv x) (by omega)
theorem strs_of_signs : ∀ {l : List Nat} {vs : List Value}, Vals (signV l) vs → StrsAre vs (l.map fun c => mkS [c]) := by
  intro l vs h
  have e : signV l = (l.map fun c => mkS [c]).map V.str := by unfold signV; rw [List.map_map]; rfl
  rw [e] at h
  exact h.strs
theorem signs_mem {l : List Nat} {vs : List Value} (h : Vals (signV l) vs) : (∀ v ∈ vs, ∃ c t, v = Value.str (mkS [c]) t) ∧ vs.map cv = l := by
  induction l generalizing vs with
  | nil =>
    cases h
    exact ⟨fun v hv => (List.not_mem_nil hv).elim, rfl⟩
  | cons c l ih =>
    unfold signV at h
    rw [List.map_cons] at h
    cases h with
    | cons a t =>
      obtain ⟨tk, rfl⟩ := a
      obtain ⟨h1, h2⟩ := ih t
      refine ⟨fun v hv => ?_, by rw [List.map_cons, h2]; rfl⟩
      rcases List.mem_cons.mp hv with e | hv
      · exact ⟨c, tk, e⟩
      · exact h1 v hv
theorem signs_of {vs : List Value} (h : ∀ v ∈ vs, ∃ c t, v = Value.str (mkS [c]) t) : Vals (signV (vs.map cv)) vs := by
  induction vs with
  | nil => exact .nil
  | cons v vs ih =>
    obtain ⟨c, t, rfl⟩ := h v List.mem_cons_self
    exact .cons ⟨t, rfl⟩ (ih fun u hu => h u (List.mem_cons_of_mem _ hu))
theorem signs_sortable {prog : Program} {w : World} {A : Around} {s : Shared} {a : Addr} {l : List Nat} {vs : List Value} (hI : Vals (signV l) vs) (h2 : 2 ≤ vs.length) : SrtO.SortableO prog w A s a vs ltCv := by
  intro h' _
  refine ⟨oneType', fun Q E hq => ?_, fun p q hm hm' => ?_⟩
  · match vs, hI, h2 with
    | v1 :: v2 :: rest, hI, _ =>
      rw [keyKind_strs (strs_of_signs hI)]
      exact wpAny_pure hq
    | [], _, h => exact absurd h (by decide)
    | [v], _, h => exact absurd h (by simp)
  · obtain ⟨a, t, e⟩ := (signs_mem hI).1 _ hm
    obtain ⟨b, u, e'⟩ := (signs_mem hI).1 _ hm'
    show wpAny (model prog w) A (keyLt' oneType' p.1 q.1) (fun r s' => s' = { s with heap := h' } ∧ r = ltCv p.1 q.1) (fun _ _ => False) { s with heap := h' }
    rw [e, e', keyLt'_oneType]
    refine oneLt_str ⟨rfl, ?_⟩
    show decide ([a] < [b]) = decide (a < b)
    exact decide_eq_decide.mpr (by simp [List.cons_lt_cons_iff])
theorem iadd_str {prog : Program} {w : World} {A : Around} {s : Shared} {R : Result → Shared → Prop} (hh : A.handled = none) (x : Str) (t : Tok) (S : Addr) (c₀ : Nat) (hS : s.heap.get? S = some { cls := .type "list", data := .seq #[] c₀ })
    (hR : ∀ h' tk acc' c', (∀ b o, b ≠ S → s.heap.get? b = some o → h'.get? b = some o) → h'.get? S = some { cls := .type "list", dict := none, data := .seq acc' c', slots := #[] } →
      ItemsOf (SignAt x) acc' x.cps.size → R (.ok (.ret (.ref S))) { s with heap := h', toks := tk }) (hn : x.cps.size ≤ sizeLine) :
    codeAny (model prog w) A (.builtin "list.__iadd__" ⟨[.ref S, .str x t], []⟩) R s := by
  refine codeAny_builtin F.entry_list_iadd ?_
  rw [Around.under_plainId F.plain_list_iadd _]
  exact wpAny_extend_str (hn := hn) hh x t S (.ref S) c₀ hS hR
theorem collect_strG {prog : Program} {w : World} {A : Around} {E : Value → Shared → Prop} {s : Shared} {Q : List Value → Shared → Prop} (hh : A.handled = none) (x : Str) (t : Tok)
    (hQ : ∀ h' tk acc, (∀ b o, s.heap.get? b = some o → h'.get? b = some o) → s.heap.objs.size < h'.objs.size → ItemsOf (SignAt x) acc x.cps.size → Q acc.toList { s with heap := h', toks := tk }) (hn : x.cps.size ≤ sizeLine) :
    wpAny (model prog w) A (collect (.str x t)) Q E s := by
  unfold collect
  refine wpAny_bind (wpAny_runValue (codeAny_builtin F.entry_proto_collect ?_))
  rw [Around.under_plainId F.plain_proto_collect _]
  show wpAny _ A.in1 (newList [] >>= fun l => again (.builtin "list.__iadd__" ⟨[l, .str x t], []⟩)) _ _ s
  refine wpAny_bind (wpAny_newObj_type ?_)
  have hS : (s.heap.push { cls := .type "list", data := .seq #[] }).get? s.heap.objs.size = some { cls := .type "list", data := .seq #[] } := Heap.get?_push_size _ rfl
  refine wpAny_pure ⟨plainId_quiet F.plain_list_iadd _, iadd_str (s := { s with heap := s.heap.push { cls := .type "list", data := .seq #[] } }) hh x t s.heap.objs.size 0 hS (fun h' tk acc' c' hk hS' hacc => ?_) hn⟩
  show wpAny _ A (load s.heap.objs.size >>= _) _ _ _
  refine wpAny_bind (wpAny_load hS' ?_)
  exact wpAny_pure (hQ h' tk acc' (fun b o e => hk b o (Nat.ne_of_lt (Heap.lt_size e)) (Heap.get?_push_of_some _ e)) (Heap.lt_size hS') hacc)
/-- sorted(a text): the signs, sorted -/
def rSortStr : List V → Hp → VK → Prop := fun xs H Q => ∃ l : List Nat, xs = [.str (mkS l)] ∧ l.length ≤ 16777216 ∧ ∀ (l' : List Nat) p, l'.Perm l → l'.Pairwise (· ≤ ·) → H p = none → Q (.ref p) (upd H p (.lst (signV l')))
theorem cr_sortStr {X : Cx} (hc : X.calm = true) : CallR X (.builtin "sorted") rSortStr := by
  intro pins s σ H xs us Q I r h
  obtain ⟨l, rfl, hl, q⟩ := h
  obtain ⟨u, rfl, t, rfl⟩ := vals1 r
  have hz : (mkS l).cps.size = l.length := by simp [mkS]
  refine Calls.call_function_entry kind_sorted plain_sorted entry_sorted (args_sorted1 _) ?_
  unfold Builtin.«sorted»
  refine wpAny_bind (m := checkCount "sorted" 1 1 _) (wpAny_pure ?_)
  refine wpAny_bind (collect_strG (A := X.A.in1) (I.ok.hd hc) _ t (fun h1 tk acc k1 hp hacc => ?_) (by rw [hz, sizeLine_eq]; exact hl))
  have hv := sign_rel hacc
  generalize acc.toList = vs at hv
  have hvl : vs.length ≤ sizeLine := by
    rw [← hv.length]
    unfold signV
    rw [List.length_map, sizeLine_eq]
    exact hl
  refine wpAny_bind (wpAny_newList ?_ hvl)
  have hoL : (h1.push (seqObj "list" vs.toArray 0)).get? h1.objs.size = some (seqObj "list" vs.toArray 0) := Heap.get?_push_size _ rfl
  refine wpAny_bind (wpAny_holding (wpAny_call_entry slot_list_sort ⟨_, hoL, rfl⟩ entry_list_sort (SrtO.list_sort_ord swo_cv hoL hvl (fun h2 => signs_sortable hv h2) fun out h1' h2 => ⟨_, rfl, ?_⟩) (args_list_sort _)))
  obtain ⟨c, hc'⟩ := sortedHeap_at (vs := vs) (out := out.toArray) hoL
  have hm := signs_mem hv
  have hmo : ∀ v ∈ out, ∃ c t, v = Value.str (mkS [c]) t := fun v hv => hm.1 v (h2.perm.mem_iff.mp hv)
  have pm : (out.map cv).Perm l := by
    have := h2.perm.map cv
    rw [hm.2] at this
    exact this
  have pw : (out.map cv).Pairwise (· ≤ ·) := List.pairwise_map.mpr (h1'.imp fun {x y} h => Nat.not_lt.mp (of_decide_eq_false (p := cv y < cv x) h))
  have hlen : (signV (out.map cv)).length ≤ sizeLine := by
    unfold signV
    rw [List.length_map, pm.length_eq, sizeLine_eq]
    exact hl
  have hk : ∀ b u, s.heap.get? b = some u → (sortedHeap (h1.push (seqObj "list" vs.toArray 0)) h1.objs.size vs out.toArray).get? b = some u := fun b u e => by
    have q := k1 b u e
    have hlt := Heap.lt_size q
    rw [sortedHeap_old (Nat.ne_of_lt hlt) (by rw [size_push']; exact Nat.lt_succ_of_lt hlt)]
    exact Heap.get?_push_of_some _ q
  exact wpAny_pure ⟨_, rfl, .ref h1.objs.size, upd H h1.objs.size (.lst (signV (out.map cv))), I.laid (t' := tk) hk (Nat.le_of_lt hp) ⟨hlen, out, c, signs_of hmo, hc'⟩, rfl, q _ _ pm pw (I.hok.fresh (Nat.le_of_lt hp))⟩
theorem listStr {l : List Nat} {H : Hp} {Q : VK} (hl : l.length ≤ 16777216) (h : ∀ p H1, Ext1 H H1 p (.lst (signV l)) → Q (.ref p) H1) : rListStr [.str (mkS l)] H Q := ⟨l, rfl, hl, fun p np => h p _ (ext1 np)⟩
theorem sortStr {l : List Nat} {H : Hp} {Q : VK} (hl : l.length ≤ 16777216) (h : ∀ l' p H1, l'.Perm l → l'.Pairwise (· ≤ ·) → Ext1 H H1 p (.lst (signV l')) → Q (.ref p) H1) : rSortStr [.str (mkS l)] H Q := ⟨l, rfl, hl, fun l' p pm pw np => h l' p _ pm pw (ext1 np)⟩
/-- a comprehension over a text -/
theorem lc_str {l : List Nat} {g : TG} {tt : TT} {te : TE} {vs : List Nat} {σ : L2.St} {H1 : Hp} {D : Addr} {Qd : Hp → Prop} (Pv : Nat → Hp → Prop) (h0 : Pv 0 (upd H1 D (.lst [])))
    (hs : ∀ i c H, l[i]? = some c → Pv i H → g (.str (mkS [c])) (wipe σ vs) H fun σ2 H2 => wipe σ2 vs = wipe σ vs ∧ tt σ2 H2 fun b H3 =>
      if b = true then te σ2 H3 fun y H4 => ∃ acc, H4 D = some (.lst acc) ∧ acc.length < sizeLine ∧ Pv (i + 1) (upd H4 D (.lst (acc ++ [y]))) else Pv (i + 1) H3) (hd : ∀ H, Pv l.length H → Qd H) :
    ∃ W : Nat → Nat → Hp → Prop, (∃ m, W 0 m (upd H1 D (.lst []))) ∧ ∀ i m H, W i m H →
      ((Its (mkS l)).stop i H ∧ Qd H) ∨ ((Its (mkS l)).go i H ∧ ∃ Nx : Hp → Prop, (∀ H', Nx H' → ∃ m', m' < m ∧ W (i + 1) m' H') ∧ ∀ x H', (Its (mkS l)).yld i H x H' → g x (wipe σ vs) H' fun σ2 H2 => wipe σ2 vs = wipe σ vs ∧ tt σ2 H2 fun b H3 =>
        if b = true then te σ2 H3 fun y H4 => ∃ acc, H4 D = some (.lst acc) ∧ acc.length < sizeLine ∧ Nx (upd H4 D (.lst (acc ++ [y]))) else Nx H3) := by
  have hz : (mkS l).cps.size = l.length := by simp [mkS]
  refine ⟨fun i m H => m = l.length - i ∧ i ≤ l.length ∧ Pv i H, ⟨l.length, by simp, Nat.zero_le _, h0⟩, ?_⟩
  rintro i m H ⟨rfl, hi, p⟩
  by_cases hlt : i < l.length
  · refine .inr ⟨by show i < (mkS l).cps.size; omega, Pv (i + 1), fun H' p' => ⟨l.length - (i + 1), by omega, rfl, hlt, p'⟩, ?_⟩
    rintro x H' ⟨rfl, c, hc, rfl⟩
    exact hs i c _ (by simpa [mkS] using hc) p
  · have e : i = l.length := by omega
    subst e
    exact .inl ⟨by show (mkS l).cps.size ≤ l.length; omega, hd H p⟩
/-- x in D, x not in D, D[x], D a dict of the module -/
def rInK (a : Addr) (kvs : List (Str × Int)) (n : Bool) : R2 := fun x y H Q => ∃ z, x = .str z ∧ y = .ref a ∧ Q (.bl ((getS kvs z).isSome != n)) H
theorem op_inK {X : Cx} {a : Addr} {kvs : List (Str × Int)} (k : KIv X.K X.w a kvs) : OpR X (compareOp .In) (rInK a kvs false) := by
  obtain ⟨es, n, h1, h2, h3, h4⟩ := k
  intro pins s σ H x y v u Q I rx ry h
  obtain ⟨z, rfl, rfl, q⟩ := h
  obtain ⟨r, hr, hc⟩ := ns_iv z h1 h4
  refine op_in_kd ⟨h1, h2, h3⟩ pins s σ H _ _ v u Q I rx ry ⟨z, r, rfl, rfl, hr, ?_⟩
  rcases hc with ⟨rfl, e⟩ | ⟨i, t, rfl, e⟩ <;> (rw [e] at q; exact q)
theorem op_notInK {X : Cx} {a : Addr} {kvs : List (Str × Int)} (k : KIv X.K X.w a kvs) : OpR X (compareOp .NotIn) (rInK a kvs true) := by
  obtain ⟨es, n, h1, h2, h3, h4⟩ := k
  intro pins s σ H x y v u Q I rx ry h
  obtain ⟨z, rfl, rfl, q⟩ := h
  obtain ⟨r, hr, hc⟩ := ns_iv z h1 h4
  refine op_notIn_kd ⟨h1, h2, h3⟩ pins s σ H _ _ v u Q I rx ry ⟨z, r, rfl, rfl, hr, ?_⟩
  rcases hc with ⟨rfl, e⟩ | ⟨i, t, rfl, e⟩ <;> (rw [e] at q; exact q)
theorem inK {a : Addr} {kvs : List (Str × Int)} {n : Bool} {z : Str} {H : Hp} {Q : VK} (q : Q (.bl ((getS kvs z).isSome != n)) H) : rInK a kvs n (.str z) (.ref a) H Q := ⟨z, rfl, rfl, q⟩
def rIxK (a : Addr) (kvs : List (Str × Int)) : R2 := fun x y H Q => ∃ z i, x = .ref a ∧ y = .str z ∧ getS kvs z = some i ∧ Q (.int i) H
theorem ix_K {X : Cx} {a : Addr} {kvs : List (Str × Int)} (k : KIv X.K X.w a kvs) : IxR X (rIxK a kvs) := by
  obtain ⟨es, n, h1, h2, h3, h4⟩ := k
  intro value slice pins s σ H x y v u Q I rx ry h hs
  obtain ⟨z, i, rfl, rfl, e, q⟩ := h
  obtain ⟨r, hr, hc⟩ := ns_iv z h1 h4
  rcases hc with ⟨rfl, e'⟩ | ⟨i', t, rfl, e'⟩
  · rw [e] at e'
    cases e'
  · rw [e] at e'
    cases e'
    exact ix_kdict value slice pins s σ H _ _ v u Q I rx ry ⟨a, z, .int i, rfl, rfl, ⟨es, n, _, h1, h2, hr, ⟨t, rfl⟩⟩, q⟩ hs
theorem ixK {a : Addr} {kvs : List (Str × Int)} {z : Str} {i : Int} {H : Hp} {Q : VK} (e : getS kvs z = some i) (q : Q (.int i) H) : rIxK a kvs (.ref a) (.str z) H Q := ⟨z, i, rfl, rfl, e, q⟩
/-- c in a text, c one sign -/
def rInSg : R2 := fun x y H Q => ∃ (c : Nat) (z : Str), x = .str ⟨#[c]⟩ ∧ y = .str z ∧ Q (.bl (decide (c ∈ z.cps.toList))) H
def rNotInSg : R2 := fun x y H Q => ∃ (c : Nat) (z : Str), x = .str ⟨#[c]⟩ ∧ y = .str z ∧ Q (.bl (!decide (c ∈ z.cps.toList))) H
theorem op_inSg {X : Cx} : OpR X (compareOp .In) rInSg := op_in_sign
theorem op_notInSg {X : Cx} : OpR X (compareOp .NotIn) rNotInSg := op_notIn_sign
theorem inSg {c : Nat} {l : List Nat} {H : Hp} {Q : VK} (q : Q (.bl (decide (c ∈ l))) H) : rInSg (.str (mkS [c])) (.str (mkS l)) H Q := ⟨c, mkS l, rfl, rfl, q⟩
theorem notInSg {c : Nat} {l : List Nat} {H : Hp} {Q : VK} (q : Q (.bl (!decide (c ∈ l))) H) : rNotInSg (.str (mkS [c])) (.str (mkS l)) H Q := ⟨c, mkS l, rfl, rfl, q⟩
end Gx
namespace Gx
open PySem PySem.Spec PyProof.Rows L2
/-- list(xs) inside a comprehension -/
def rListQ (K : PySem.W.Frag) : List V → Hp → VK → Prop := fun xs H Q => ∃ p ys, xs = [.ref p] ∧ (SqL K H p ys ∨ SqT K H p ys) ∧ ∀ l, H l = none → Q (.ref l) (upd H l (.lst ys))
theorem cr_listQ {X : Cx} : CallR X (.type "list") (rListQ X.K) := call_list_of
end Gx
/-! ### an own exception with one field, made by its own __init__ -/
namespace Gx
open PySem PySem.Spec PySem.Calls PyProof.Rows
section
variable {prog : Program} {w : World} {A : Around} {E : Value → Shared → Prop} {s : Shared} {K : PySem.W.Frag} {x D : Addr} {ox : Obj} {od : Option Obj}
open PySem.W in
/-- what a class says of __class__, whatever dict the instance has -/
theorem find_cls {a g : Value} {name : Str} (hc : (clsIn K D).isSome = true) (ha : findIn K (.ref D) name = some (some a)) (hg : specialIn K a "__get__" = some (some g)) (ht : takesIn K a = some true) : findObj K D od name = some (.bind g a) := by
  obtain ⟨cd, e⟩ := Option.isSome_iff_exists.mp hc
  unfold findObj
  rw [e, Option.bind_some, ha, Option.bind_some]
  simp [hg, ht]
open PySem.W in
theorem class_of_exc {Q : Option Value → Shared → Prop} (c : L2.ExcC K D) (X : K.In s.heap) (I : InstAt s.heap x ox D od) (h : Q (some (.ref D)) { s with toks := s.toks + 1 }) : wpAny (model prog w) A (getAttr? (.ref x) "__class__") Q E s := by
  obtain ⟨hg, hk, hsb, hd, ha, hn, ht, hm⟩ := c
  have f : findObj K D od "__class__" = some (.bind (.builtin "getset_descriptor.__get__") (.builtin "object.__class__")) := find_cls (by obtain ⟨_, e, _⟩ := any_some hd; rw [e]; rfl) ha hn ht
  obtain ⟨hp, gs, dr, tk, os⟩ := s
  have l0 := I.type (M := model prog w)
  have l1 := looks_findIn (M := model prog w) X hg
  have l2 := looks_findIn (M := model prog w) X hk
  have l3 := looks_find (M := model prog w) X I f
  have lb : Looks (model prog w) hp (isInstance (.ref x) (.type "BaseException")) true := l0.andThen (looks_subIn X hsb)
  have ne : (Value.builtin "BaseException.__getattribute__" == Value.builtin "object.__getattribute__") = false := by decide +kernel
  unfold getAttr? getAttrBy? getAttrBy
  refine wpAny_bind (wpAny_mkText (wpAny_bind (wpAny_attempt (wpAny_holding (wpAny_bind (l0.at (wpAny_bind (l1.at ?_))))))))
  show wpAny _ _ (if (onTheHeap (Value.ref D) && Value.builtin "BaseException.__getattribute__" == Value.builtin "object.__getattribute__") = true then _ else _) _ _ _
  rw [show (onTheHeap (Value.ref D) && Value.builtin "BaseException.__getattribute__" == Value.builtin "object.__getattribute__") = false by rw [ne]; rfl, if_neg Bool.false_ne_true]
  unfold getAttrByItsOwn hookBefore
  refine wpAny_bind ?_
  rw [if_pos (show onTheHeap (Value.ref D) = true from rfl)]
  refine l2.at (wpAny_bind (wpAny_attempt (wpAny_holding ?_)))
  unfold callGetattribute
  rw [show (false && onTheHeap (Value.builtin "BaseException.__getattribute__")) = false from rfl, if_neg Bool.false_ne_true]
  unfold boundAndCalled
  rw [PySem.F.excAttr_ValueError.ga.bind (.ref x)]
  refine wpAny_bind (wpAny_pure ?_)
  show wpAny _ _ (PySem.call (.builtin "BaseException.__getattribute__") [.ref x, .str "__class__" tk]) _ _ _
  refine wpAny_call (codeAny_call_builtin PySem.F.excAttr_ValueError.ga.plain PySem.F.entry_bexc_ga ?_)
  refine @check_slot (model prog w) _ _ ⟨hp, gs, dr, tk + 1, os⟩ "BaseException.__getattribute__" "BaseException" "__getattribute__" (.ref x) [.str "__class__" tk] [] _ (by decide +kernel) (by decide +kernel) lb (PySem.F.args_bexc_ga (.ref x) (.str "__class__" tk)) ?_
  unfold Builtin.«object.__getattribute__»
  refine wpAny_bind (wpAny_of_eq (a := ((Value.ref x : Value), [Value.str "__class__" tk])) (by first | rfl | (simp only [slotArgs]; rfl)) ?_)
  refine wpAny_bind (wpAny_pure (wpAny_bind (l0.at (wpAny_bind (l3.at ?_)))))
  show wpAny _ _ (holding [Value.builtin "object.__class__"] (PySem.call (.builtin "getset_descriptor.__get__") [.builtin "object.__class__", .ref x, .ref D]) >>= PySem.ret) _ _ _
  refine wpAny_bind (wpAny_holding (wpAny_call (class_get (s := ⟨hp, gs, dr, tk + 1, os⟩) (ox := ox) (od := od) X I hm (wpAny_pure ?_))))
  show wpAny _ _ (handedOut (.ref D)) _ _ _
  rw [handedOut_of (v := .ref D) rfl]
  first
    | exact wpAny_pure (wpAny_pure h)
    | exact wpAny_pure h
    | exact wpAny_pure (wpAny_bind (wpAny_pure (wpAny_pure h)))
open PySem.W in
theorem kit_exc (c : L2.ExcC K D) : KitX K (.ref x) (.ref D) (fun h => InstAt h x ox D od) where
  ty := fun _ _ _ I => I.type
  it := fun _ _ X _ => by
    obtain ⟨cd, hc, _⟩ := any_some c.hd
    unfold clsIn at hc
    split at hc
    · rename_i c' d' cd' sl' ho
      intro A' Q' E' s' k q
      unfold isType loadHead
      exact wpAny_bind (wpAny_loadPart (k _ _ (X _ _ ho)) (wpAny_pure q))
    · cases hc
  ne := fun h tp dd its n sl X htp => by
    obtain ⟨cd, hc, _⟩ := any_some c.hd
    refine Bool.eq_false_iff.mpr fun q => ?_
    have e : D = tp := Value.ref.inj (beq_iff_eq.mp q)
    subst e
    unfold clsIn at hc
    split at hc
    · rename_i c' d' cd' sl' ho
      have z := (X _ _ ho).symm.trans htp
      cases z
    · cases hc
  ca := fun X I k => class_of_exc c X I k
end
end Gx
namespace Gx
open PySem PySem.Spec PyProof.Rows L2
section
variable {X : Cx} {a C : Addr} {cls : Value} {d : Option Addr} {oe : Obj} {pn : List (Addr × Obj)} {σ : L2.St} {H : Hp} {Q : VK} {te : TE} {f : Str}
/-- isinstance(e, c), e the exception that the suite holds; it has its own dict -/
def rIsO (K : PySem.W.Frag) (C a : Addr) (cls : Value) (d : Option Addr) : List V → Hp → VK → Prop := fun xs H Q => ∃ (c : V) (cv : Value) (b : Bool) (dd : Addr) (fs : List (Str × V)), cls = .ref C ∧ d = some dd ∧ H dd = some (.xd fs) ∧ xs = [.ref a, c] ∧ (∀ u, RelV c u → u = cv) ∧ PySem.W.kitOne K (.ref C) cv = some b ∧ Q (.bl b) H
theorem isO_at {fs : List (Str × V)} {dd : Addr} {pins : List (Addr × Obj)} {s : Shared} (hz : Zc cls d oe) (hf : ∃ vs, oe.data = .fields vs) (ec : cls = .ref C) (ed : d = some dd) (I : Inv (X.suite a ((a, oe) :: pn)) pins σ H s) (hd : H dd = some (.xd fs)) : ∃ od, PySem.W.InstAt s.heap a oe C (some od) ∧ ∃ mA : Str → Option Value, (∀ name, PySem.W.lookIn name od = some (mA name)) ∧ ∀ f, RelO (fs.lookup f) (mA f) := by
  subst ec ed
  obtain ⟨ha, _⟩ := I.pin (a, oe) (List.mem_append_left _ List.mem_cons_self)
  obtain ⟨vs, hv⟩ := hf
  have hx : ObjOk X.prog X.w H s.heap dd (.xd fs) := I.hok dd _ hd
  obtain ⟨mA, hns, hr⟩ := hx
  obtain ⟨od, ho, hl⟩ := lookIn_ns hns
  exact ⟨od, ⟨ha, hz.1, by unfold PySem.W.notCls; rw [hv] <;> rfl, by rw [hz.2]; exact ho⟩, mA, hl, hr⟩
theorem cr_isO (c : ExcC X.K C) (hz : Zc cls d oe) (hf : ∃ vs, oe.data = .fields vs) : CallR (X.suite a ((a, oe) :: pn)) (.builtin "isinstance") (rIsO X.K C a cls d) := by
  intro pins s σ H xs us Q I r h
  obtain ⟨k, cv, b, dd, fs, ec, ed, hd, rfl, hcv, e, q⟩ := h
  cases r with
  | cons rx rr =>
    cases rr with
    | cons rt rr =>
      cases rr
      cases rx
      have ek := hcv _ rt
      subst ek
      obtain ⟨od, J, _⟩ := isO_at hz hf ec ed I hd
      exact PySem.W.kia_one (kit_exc c) I.kIn J e (fun z => nomatch z) fun tk => ⟨.bl b, H, I.kept (t' := tk) fun _ _ z => z, rfl, q⟩
/-- e.f -/
def tByO (C : Addr) (f : Str) (a : Addr) (cls : Value) (d : Option Addr) (te : TE) : TE := fun σ H Q => te σ H fun x H1 => x = .ref a ∧ cls = .ref C ∧ ∃ (dd : Addr) (fs : List (Str × V)) (v : V), d = some dd ∧ H1 dd = some (.xd fs) ∧ fs.lookup f = some v ∧ Q v H1
theorem pe_byO {e : Expr} {pos : Pos} (c : ExcC X.K C) (hno : PySem.W.findIn X.K (.ref C) f = some none) (hz : Zc cls d oe) (hf : ∃ vs, oe.data = .fields vs) (he : PE (X.suite a ((a, oe) :: pn)) e te)
    (hb : attributeBase e f X.env (eval e X.env) = eval e X.env := by rfl) : PE (X.suite a ((a, oe) :: pn)) (.Attribute e f pos) (tByO C f a cls d te) := by
  refine ⟨fun pins s σ H Q I h => ?_⟩
  refine attr_of hb (thn (he.run pins s σ H _ I h) fun u s1 hh => ?_)
  obtain ⟨x, H1, I1, rx, ex, ec, dd, fs, v, ed, ea, lk, q⟩ := hh
  subst ex
  obtain rfl : u = Value.ref a := rx
  obtain ⟨od, J, mA, hl, hr⟩ := isO_at hz hf ec ed I1 ea
  obtain ⟨u, hu, ru⟩ := RelO.some_of (v := v) (o := mA f) (by rw [← lk]; exact hr f)
  exact HandSPX.exc_get I1.kIn J c.hg c.hk c.hs (PySem.W.findObj_own c.hd hno rfl (by rw [hl, hu])) (handed_of ru) ⟨v, H1, I1.tok _, ru, q⟩
/-- what __init__ of such a class promises: self.f = v -/
def spOi (K : PySem.W.Frag) (C : Addr) (f : Str) : Sp := fun vs H Q _ => ∃ (a : Addr) (v : V), vs = [.ref a, v] ∧ H a = some (exo a C none) ∧ ∀ dx, H dx = none → dx ≠ a → Q .non (upd (upd H dx (exd dx [(f, v)])) a (exo a C (some dx)))
/-- raise C(e) -/
theorem mkO {K : PySem.W.Frag} {ta : TA} {XQ : XK} (h : ta σ H fun vs H1 => ∃ v, vs = [v] ∧ ∀ d, H1 d = none → XQ (.ref C) (some d) (upd H1 d (.xd [(f, v)]))) (mono : ∀ {Q1 Q2 : List V → Hp → Prop}, (∀ vs H, Q1 vs H → Q2 vs H) → ta σ H Q1 → ta σ H Q2) : tMkO C (spOi K C f) [] ta σ H XQ := by
  refine mono (fun vs H1 q => ?_) h
  obtain ⟨v, rfl, q⟩ := q
  refine ⟨by simp, fun a na => ⟨a, v, rfl, upd_same, fun dx nd ne => ⟨rfl, dx, [(f, v)], upd_same, ?_, ?_, ?_⟩⟩⟩
  · rw [upd_ne ne, upd_same]
  · rw [upd_ne ne] at nd
    exact nd
  · rw [upd_ne ne] at nd
    have e : upd (L2.del (upd (upd (upd H1 a (exo a C none)) dx (exd dx [(f, v)])) a (exo a C (some dx))) a) dx (.xd [(f, v)]) = upd H1 dx (.xd [(f, v)]) := by
      funext b
      by_cases hb : b = dx
      · subst hb; rw [upd_same, upd_same]
      · rw [upd_ne hb, upd_ne hb]
        by_cases hba : b = a
        · subst hba; rw [del_same, na]
        · rw [del_ne hba, upd_ne hba, upd_ne hb, upd_ne hba]
    rw [e]
    exact q dx nd
end
end Gx
/-! ### for pair in zip(t, u), t and u tuples: the pair under one name -/
namespace Gx
open PySem PySem.Spec PyProof.Rows L2 RZ
/-- the zip's own object: what it gave out last, whether it has seen that it is still there -/
abbrev ZC (h : Heap) (z TI TO : Addr) (g : Value) (f : Bool) : Prop := h.get? z = some { cls := .type "zip", dict := none, data := .fields #[g, .bool f, .bool false, .ref TI, .ref TO], slots := #[] }
section
variable {prog : Program} {w : World} {A : Around} {E : Value → Shared → Prop} {s : Shared} {z TI TO i1 i2 l1 l2 : Addr} {g : Value} {f : Bool} {k1 k2 : Nat} {xs ys : Array Value} {x y a b : Value}
theorem zn_free {Q : Bool → Shared → Prop} (hz : ZC s.heap z TI TO g f) (hg : g = .none ∨ ∃ T : Addr, g = rawInt T) (ht : Q true s) (hf : (∃ T : Addr, g = rawInt T) → ∀ h', ZC h' z TI TO g true → Heap.SameBut z s.heap h' → Q false { s with heap := h' }) :
    wpAny (model prog w) A (Builtin.SmallTypes.ownedTupleIsFree (.ref z)) Q E s := by
  unfold Builtin.SmallTypes.ownedTupleIsFree
  rcases hg with rfl | ⟨T, rfl⟩
  · exact wpAny_bind (wpAny_field hz rfl (x := .none) rfl (wpAny_pure ht))
  · refine wpAny_bind (wpAny_field hz rfl (x := rawInt T) rfl ?_)
    have look : ∀ {R : Option Obj → Shared → Prop}, R (s.heap.get? T) s → wpAny (model prog w) A (loadIfAlive T) R E s := fun r => fun _ _ _ => r
    show wpAny _ A (loadIfAlive (Int.toNat (T : Int)) >>= _) _ E s
    rw [Int.toNat_natCast]
    refine wpAny_bind (look ?_)
    cases s.heap.get? T with
    | none => exact wpAny_pure ht
    | some o =>
      simp only [Option.isNone_some, Bool.false_eq_true, if_false]
      refine wpAny_bind (wpAny_field hz rfl (x := .bool f) rfl ?_)
      cases f with
      | true => exact wpAny_pure (hf ⟨T, rfl⟩ s.heap hz (Heap.SameBut.refl _ _))
      | false => exact wpAny_bind (wpAny_setField_rec hz (by simp) fun h1 z1 b1 => wpAny_pure (hf ⟨T, rfl⟩ h1 z1 b1))
/-- one item comes -/
theorem zn_item {Q : Value → Shared → Prop} (D : ZipApart z TI TO i1 i2 l1 l2) (hz : ZC s.heap z TI TO g f) (hg : g = .none ∨ ∃ T : Addr, g = rawInt T) (hI : IsPair s.heap TI (.ref i1) (.ref i2)) (hO : IsPair s.heap TO a b)
    (t1 : s.heap.IsTupleIter i1 l1 k1) (t2 : s.heap.IsTupleIter i2 l2 k2) (u1 : s.heap.IsTuple l1 xs) (u2 : s.heap.IsTuple l2 ys) (hx : xs[k1]? = some x) (hy : ys[k2]? = some y)
    (hQ : ∀ h' (T : Addr) f' c d, ZC h' z TI TO (rawInt T) f' → IsPair h' TO c d → h'.IsTupleIter i1 l1 (k1 + 1) → h'.IsTupleIter i2 l2 (k2 + 1) → IsPair h' s.heap.objs.size x y →
      (∀ c o, c ≠ z → c ≠ TO → c ≠ i1 → c ≠ i2 → s.heap.get? c = some o → h'.get? c = some o) → Q (.ref s.heap.objs.size) { s with heap := h' }) :
    wpAny (model prog w) A (Builtin.«zip.__next__» ⟨[.ref z], []⟩) (fun fin s' => ∃ v, fin = .done (.ret v) ∧ Q v s') E s := by
  show wpAny (model prog w) A (field (.ref z) 2 >>= _) _ E s
  refine wpAny_bind (wpAny_field hz rfl (x := .bool false) rfl ?_)
  show wpAny (model prog w) A (field (.ref z) 3 >>= _) _ E s
  refine wpAny_bind (wpAny_field hz rfl (x := .ref TI) rfl (wpAny_bind (wpAny_seqItems hI rfl ?_)))
  show wpAny (model prog w) A (Builtin.SmallTypes.ownedTupleIsFree (.ref z) >>= _) _ E s
  refine wpAny_bind (zn_free hz hg ?_ fun given h1 z1 b1 => ?_)
  · -- its own tuple is free again
    simp only [if_true]
    refine wpAny_bind (wpAny_rule (wpAny_bind (wpAny_field hz rfl (x := .ref TO) rfl (wpAny_bind (wpAny_setField_rec hz (by simp) fun h1 z1 b1 => ?_)))))
    replace z1 : ZC h1 z TI TO .ellipsis f := z1
    refine wpAny_bind ?_
    simp only [List.zipIdx_cons, List.zipIdx_nil, List.forIn_cons, List.forIn_nil]
    have o1 : IsPair h1 TO a b := b1.extBut _ _ D.TOz hO
    refine wpAny_bind (wpAny_bind (wpAny_onRaise ?_))
    show wpAny (model prog w) A (Builtin.SmallTypes.nextOf (.ref i1) >>= _) _ _ _
    refine wpAny_bind (nextOf_tuple_item (t1.extBut b1.extBut D.i1z) (u1.extBut b1.extBut D.l1z) hx fun h2 n1 b2 => wpAny_pure ?_)
    have o2 : IsPair h2 TO a b := b2.extBut _ _ D.TOi1 o1
    refine wpAny_bind (wpAny_seqItems o2 rfl (wpAny_bind (wpAny_updateSeq_pair o2 fun h3 o3 b3 => wpAny_bind (wpAny_letGo (wpAny_pure ?_)))))
    replace o3 : IsPair h3 TO x b := o3
    refine wpAny_bind (wpAny_bind (wpAny_onRaise ?_))
    show wpAny (model prog w) A (Builtin.SmallTypes.nextOf (.ref i2) >>= _) _ _ _
    have t23 := ((t2.extBut b1.extBut D.i2z).extBut b2.extBut D.i12.symm).extBut b3.extBut D.TOi2.symm
    refine wpAny_bind (nextOf_tuple_item t23 (((u2.extBut b1.extBut D.l2z).extBut b2.extBut D.l2i1).extBut b3.extBut D.l2TO) hy fun h4 n2 b4 => wpAny_pure ?_)
    have o4 : IsPair h4 TO x b := b4.extBut _ _ D.TOi2 o3
    refine wpAny_bind (wpAny_seqItems o4 rfl (wpAny_bind (wpAny_updateSeq_pair o4 fun h5 o5 b5 => wpAny_bind (wpAny_letGo (wpAny_pure (wpAny_pure ?_))))))
    replace o5 : IsPair h5 TO x y := o5
    refine wpAny_bind (wpAny_seqItems o5 rfl (wpAny_bind (wpAny_newTuple ?_)))
    have size5 : h5.objs.size = s.heap.objs.size := (b5.1.trans b4.1).trans ((b3.1.trans b2.1).trans b1.1)
    have z5 : ZC h5 z TI TO .ellipsis f := b5.extBut _ _ D.TOz.symm (b4.extBut _ _ D.i2z.symm (b3.extBut _ _ D.TOz.symm (b2.extBut _ _ D.i1z.symm z1)))
    have frame : ∀ c o, c ≠ z → c ≠ TO → c ≠ i1 → c ≠ i2 → s.heap.get? c = some o → h5.get? c = some o := fun c o e1 e2 e3 e4 e =>
      b5.extBut _ _ e2 (b4.extBut _ _ e4 (b3.extBut _ _ e2 (b2.extBut _ _ e3 (b1.extBut _ _ e1 e))))
    have n15 : h5.IsTupleIter i1 l1 (k1 + 1) := ((n1.extBut b3.extBut D.TOi1.symm).extBut b4.extBut D.i12).extBut b5.extBut D.TOi1.symm
    have n25 : h5.IsTupleIter i2 l2 (k2 + 1) := n2.extBut b5.extBut D.TOi2.symm
    have zlt : z < h5.objs.size := Heap.lt_size z5
    show wpAny (model prog w) A (Builtin.SmallTypes.ownedTupleHandOut (.ref z) (.ref h5.objs.size) >>= _) _ E _
    unfold Builtin.SmallTypes.ownedTupleHandOut
    have z6 : ZC (h5.push { cls := .type "tuple", data := .seq #[x, y] }) z TI TO .ellipsis f := Heap.get?_push_of_some _ z5
    refine wpAny_bind (wpAny_bind (wpAny_setField_rec z6 (by simp) fun h7 z7 b7 => ?_))
    replace z7 : ZC h7 z TI TO (rawInt h5.objs.size) f := z7
    refine wpAny_setField_rec z7 (by simp) fun h8 z8 b8 => ?_
    replace z8 : ZC h8 z TI TO (rawInt h5.objs.size) false := z8
    have on : ∀ c o, c ≠ z → h5.get? c = some o → h8.get? c = some o := fun c o ne e => b8.extBut _ _ ne (b7.extBut _ _ ne (Heap.get?_push_of_some _ e))
    have new : IsPair h8 h5.objs.size x y := b8.extBut _ _ (Nat.ne_of_gt zlt) (b7.extBut _ _ (Nat.ne_of_gt zlt) (Heap.get?_push_size _ rfl))
    rw [size5] at new
    refine wpAny_pure ⟨_, rfl, ?_⟩
    show Q (.ref h5.objs.size) _
    rw [size5]
    exact hQ h8 _ _ _ _ z8 (on _ _ D.TOz o5) (n15.at fun o e => on _ o D.i1z e) (n25.at fun o e => on _ o D.i2z e) new fun c o e1 e2 e3 e4 e => on c o e1 (frame c o e1 e2 e3 e4 e)
  · -- what it gave out is still there
    simp only [Bool.false_eq_true, if_false]
    refine wpAny_bind ?_
    rw [← Array.forIn_toList]
    simp only [List.forIn_cons, List.forIn_nil]
    refine wpAny_bind (wpAny_bind (wpAny_holding ?_))
    show wpAny (model prog w) A (Builtin.SmallTypes.nextOf (.ref i1) >>= _) _ _ _
    refine wpAny_bind (nextOf_tuple_item (t1.extBut b1.extBut D.i1z) (u1.extBut b1.extBut D.l1z) hx fun h2 n1 b2 => wpAny_pure (wpAny_pure (wpAny_bind (wpAny_bind (wpAny_holding ?_)))))
    show wpAny (model prog w) A (Builtin.SmallTypes.nextOf (.ref i2) >>= _) _ _ _
    refine wpAny_bind (nextOf_tuple_item ((t2.extBut b1.extBut D.i2z).extBut b2.extBut D.i12.symm) ((u2.extBut b1.extBut D.l2z).extBut b2.extBut D.l2i1) hy fun h3 n2 b3 => wpAny_pure (wpAny_pure (wpAny_pure ?_)))
    show wpAny (model prog w) A (newTuple [x, y] >>= _) _ E _
    refine wpAny_bind (wpAny_newTuple (wpAny_pure ⟨_, rfl, ?_⟩))
    have size3 : h3.objs.size = s.heap.objs.size := b3.1.trans (b2.1.trans b1.1)
    have z3 : ZC h3 z TI TO g true := b3.extBut _ _ D.i2z.symm (b2.extBut _ _ D.i1z.symm z1)
    have n13 : h3.IsTupleIter i1 l1 (k1 + 1) := n1.extBut b3.extBut D.i12
    have frame : ∀ c o, c ≠ z → c ≠ i1 → c ≠ i2 → s.heap.get? c = some o → h3.get? c = some o := fun c o e1 e2 e3 e => b3.extBut _ _ e3 (b2.extBut _ _ e2 (b1.extBut _ _ e1 e))
    have o3 : IsPair h3 TO a b := frame _ _ D.TOz D.TOi1 D.TOi2 hO
    have pp : ∀ c o, h3.get? c = some o → (h3.push { cls := .type "tuple", data := .seq #[x, y] }).get? c = some o := fun c o e => Heap.get?_push_of_some _ e
    have new : IsPair (h3.push { cls := .type "tuple", data := .seq #[x, y] }) h3.objs.size x y := Heap.get?_push_size _ rfl
    show Q (.ref h3.objs.size) _
    rw [size3] at new ⊢
    obtain ⟨T, rfl⟩ := given
    exact hQ _ T true a b (pp _ _ z3) (pp _ _ o3) (n13.at fun o e => pp _ o e) (n2.at fun o e => pp _ o e) new fun c o e1 _ e3 e4 e => pp c o (frame c o e1 e3 e4 e)
/-- no item comes -/
theorem zn_end {Q : Fin → Shared → Prop} (cold : A.handled = none) (D : ZipApart z TI TO i1 i2 l1 l2) (hz : ZC s.heap z TI TO g f) (hg : g = .none ∨ ∃ T : Addr, g = rawInt T) (hI : IsPair s.heap TI (.ref i1) (.ref i2)) (hO : IsPair s.heap TO a b)
    (t1 : s.heap.IsTupleIter i1 l1 k1) (t2 : s.heap.IsTupleIter i2 l2 k2) (u1 : s.heap.IsTuple l1 xs) (u2 : s.heap.IsTuple l2 ys) (over : xs[k1]? = none ∨ ys[k2]? = none)
    (hE : ∀ h' e, (∀ c o, c ≠ z → c ≠ TO → c ≠ i1 → c ≠ i2 → s.heap.get? c = some o → h'.get? c = some o) → (∃ o, h'.get? e = some o ∧ o.cls = .type "StopIteration") → E (.ref e) { s with heap := h' }) :
    wpAny (model prog w) A (Builtin.«zip.__next__» ⟨[.ref z], []⟩) Q E s := by
  show wpAny (model prog w) A (field (.ref z) 2 >>= _) _ E s
  refine wpAny_bind (wpAny_field hz rfl (x := .bool false) rfl ?_)
  show wpAny (model prog w) A (field (.ref z) 3 >>= _) _ E s
  refine wpAny_bind (wpAny_field hz rfl (x := .ref TI) rfl (wpAny_bind (wpAny_seqItems hI rfl ?_)))
  show wpAny (model prog w) A (Builtin.SmallTypes.ownedTupleIsFree (.ref z) >>= _) _ E s
  refine wpAny_bind (zn_free hz hg ?_ fun given h1 z1 b1 => ?_)
  · simp only [if_true]
    refine wpAny_bind (wpAny_rule (wpAny_bind (wpAny_field hz rfl (x := .ref TO) rfl (wpAny_bind (wpAny_setField_rec hz (by simp) fun h1 z1 b1 => ?_)))))
    replace z1 : ZC h1 z TI TO .ellipsis f := z1
    refine wpAny_bind ?_
    simp only [List.zipIdx_cons, List.zipIdx_nil, List.forIn_cons, List.forIn_nil]
    have o1 : IsPair h1 TO a b := b1.extBut _ _ D.TOz hO
    refine wpAny_bind (wpAny_bind (wpAny_onRaise ?_))
    show wpAny (model prog w) A (Builtin.SmallTypes.nextOf (.ref i1) >>= _) _ _ _
    cases hx : xs[k1]? with
    | none =>
      refine wpAny_bind (nextOf_tuple_end cold (t1.extBut b1.extBut D.i1z) (u1.extBut b1.extBut D.l1z) hx fun h2 e b2 ⟨oe, e1, e2⟩ => ?_)
      have z2 : ZC h2 z TI TO .ellipsis f := b2 _ _ D.i1z.symm z1
      have ez : e ≠ z := fun q => by
        rw [q, z2] at e1
        cases e1
        simp at e2
      exact wpAny_setField_rec z2 (by simp) fun h3 _ b3 => hE h3 e (fun c o c1 _ c3 _ q => b3.extBut _ _ c1 (b2 _ _ c3 (b1.extBut _ _ c1 q))) ⟨oe, b3.extBut _ _ ez e1, e2⟩
    | some x =>
      have hy : ys[k2]? = none := over.resolve_left (by rw [hx]; exact Option.some_ne_none x)
      refine wpAny_bind (nextOf_tuple_item (t1.extBut b1.extBut D.i1z) (u1.extBut b1.extBut D.l1z) hx fun h2 n1 b2 => wpAny_pure ?_)
      have o2 : IsPair h2 TO a b := b2.extBut _ _ D.TOi1 o1
      refine wpAny_bind (wpAny_seqItems o2 rfl (wpAny_bind (wpAny_updateSeq_pair o2 fun h3 o3 b3 => wpAny_bind (wpAny_letGo (wpAny_pure ?_)))))
      refine wpAny_bind (wpAny_bind (wpAny_onRaise ?_))
      show wpAny (model prog w) A (Builtin.SmallTypes.nextOf (.ref i2) >>= _) _ _ _
      have t23 := ((t2.extBut b1.extBut D.i2z).extBut b2.extBut D.i12.symm).extBut b3.extBut D.TOi2.symm
      refine wpAny_bind (nextOf_tuple_end cold t23 (((u2.extBut b1.extBut D.l2z).extBut b2.extBut D.l2i1).extBut b3.extBut D.l2TO) hy fun h4 e b4 ⟨oe, e1, e2⟩ => ?_)
      have z4 : ZC h4 z TI TO .ellipsis f := b4 _ _ D.i2z.symm (b3.extBut _ _ D.TOz.symm (b2.extBut _ _ D.i1z.symm z1))
      have ez : e ≠ z := fun q => by
        rw [q, z4] at e1
        cases e1
        simp at e2
      exact wpAny_setField_rec z4 (by simp) fun h5 _ b5 => hE h5 e (fun c o c1 c2 c3 c4 q => b5.extBut _ _ c1 (b4 _ _ c4 (b3.extBut _ _ c2 (b2.extBut _ _ c3 (b1.extBut _ _ c1 q))))) ⟨oe, b5.extBut _ _ ez e1, e2⟩
  · simp only [Bool.false_eq_true, if_false]
    refine wpAny_bind ?_
    rw [← Array.forIn_toList]
    simp only [List.forIn_cons, List.forIn_nil]
    refine wpAny_bind (wpAny_bind (wpAny_holding ?_))
    show wpAny (model prog w) A (Builtin.SmallTypes.nextOf (.ref i1) >>= _) _ _ _
    cases hx : xs[k1]? with
    | none => exact wpAny_bind (nextOf_tuple_end cold (t1.extBut b1.extBut D.i1z) (u1.extBut b1.extBut D.l1z) hx fun h2 e b2 he => hE h2 e (fun c o c1 _ c3 _ q => b2 _ _ c3 (b1.extBut _ _ c1 q)) he)
    | some x =>
      have hy : ys[k2]? = none := over.resolve_left (by rw [hx]; exact Option.some_ne_none x)
      refine wpAny_bind (nextOf_tuple_item (t1.extBut b1.extBut D.i1z) (u1.extBut b1.extBut D.l1z) hx fun h2 n1 b2 => wpAny_pure (wpAny_pure (wpAny_bind (wpAny_bind (wpAny_holding ?_)))))
      show wpAny (model prog w) A (Builtin.SmallTypes.nextOf (.ref i2) >>= _) _ _ _
      exact wpAny_bind (nextOf_tuple_end cold ((t2.extBut b1.extBut D.i2z).extBut b2.extBut D.i12.symm) ((u2.extBut b1.extBut D.l2z).extBut b2.extBut D.l2i1) hy fun h3 e b3 he => hE h3 e (fun c o c1 _ c3 c4 q => b3 _ _ c4 (b2.extBut _ _ c3 (b1.extBut _ _ c1 q))) he)
theorem zn_next {Q : Option Value → Shared → Prop} (D : ZipApart z TI TO i1 i2 l1 l2) (hz : ZC s.heap z TI TO g f) (hg : g = .none ∨ ∃ T : Addr, g = rawInt T) (hI : IsPair s.heap TI (.ref i1) (.ref i2)) (hO : IsPair s.heap TO a b)
    (t1 : s.heap.IsTupleIter i1 l1 k1) (t2 : s.heap.IsTupleIter i2 l2 k2) (u1 : s.heap.IsTuple l1 xs) (u2 : s.heap.IsTuple l2 ys) (hx : xs[k1]? = some x) (hy : ys[k2]? = some y)
    (hQ : ∀ h' (T : Addr) f' c d, ZC h' z TI TO (rawInt T) f' → IsPair h' TO c d → h'.IsTupleIter i1 l1 (k1 + 1) → h'.IsTupleIter i2 l2 (k2 + 1) → IsPair h' s.heap.objs.size x y →
      (∀ c o, c ≠ z → c ≠ TO → c ≠ i1 → c ≠ i2 → s.heap.get? c = some o → h'.get? c = some o) → Q (some (.ref s.heap.objs.size)) { s with heap := h' }) : wpAny (model prog w) A (pyNext (.ref z)) Q E s := by
  have ty : s.TypeIs (.ref z) "zip" := ⟨_, hz, rfl⟩
  unfold pyNext
  exact wpAny_bind (wpAny_attempt (wpAny_callSpecial?_slot (name := Str.ofString "__next__") ty PySem.F.slot_zip_next (wpAny_call_entry PySem.F.slot_zip_next ty PySem.F.entry_zip_next
    (zn_item D hz hg hI hO t1 t2 u1 u2 hx hy fun h' T f' c d z1 z2 z3 z4 z5 z6 => wpAny_pure (hQ h' T f' c d z1 z2 z3 z4 z5 z6)) (PySem.F.args_zip_next_1 _))))
theorem zn_stop {Q : Option Value → Shared → Prop} (cold : A.handled = none) (D : ZipApart z TI TO i1 i2 l1 l2) (hz : ZC s.heap z TI TO g f) (hg : g = .none ∨ ∃ T : Addr, g = rawInt T) (hI : IsPair s.heap TI (.ref i1) (.ref i2)) (hO : IsPair s.heap TO a b)
    (t1 : s.heap.IsTupleIter i1 l1 k1) (t2 : s.heap.IsTupleIter i2 l2 k2) (u1 : s.heap.IsTuple l1 xs) (u2 : s.heap.IsTuple l2 ys) (over : xs[k1]? = none ∨ ys[k2]? = none)
    (hQ : ∀ h', (∀ c o, c ≠ z → c ≠ TO → c ≠ i1 → c ≠ i2 → s.heap.get? c = some o → h'.get? c = some o) → Q none { s with heap := h' }) : wpAny (model prog w) A (pyNext (.ref z)) Q E s := by
  have ty : s.TypeIs (.ref z) "zip" := ⟨_, hz, rfl⟩
  unfold pyNext
  refine wpAny_bind (wpAny_attempt (wpAny_callSpecial?_slot (name := Str.ofString "__next__") ty PySem.F.slot_zip_next (wpAny_call_entry PySem.F.slot_zip_next ty PySem.F.entry_zip_next
    (zn_end cold D hz hg hI hO t1 t2 u1 u2 over fun h' e hk ⟨o, e1, e2⟩ => ?_) (PySem.F.args_zip_next_1 _))))
  exact wpAny_bind (wpAny_isInstance (T := "StopIteration") (b := true) ⟨o, e1, e2⟩ isSubtype_stop (wpAny_pure (hQ _ hk)))
theorem zn_iter {Q : Value → Shared → Prop} (hz : ZC s.heap z TI TO g f) (h : Q (.ref z) s) : wpAny (model prog w) A (pyIter (.ref z)) Q E s := by
  have ty : s.TypeIs (.ref z) "zip" := ⟨_, hz, rfl⟩
  refine wpAny_pyIter_slot ty PySem.F.slot_zip_iter (wpAny_call_entry PySem.F.slot_zip_iter ty PySem.F.entry_zip_iter ?_ (PySem.F.args_zip_iter_1 _))
  show wpAny (model prog w) _ (PySem.ret (.ref z)) _ E s
  exact wpAny_pure ⟨_, rfl, "zip", _, ty, PySem.F.slot_zip_next.lookup, h⟩
theorem turn_zn {P : Program} {K : PySem.W.Frag} {nm : Str} {pn : Pos} {a b : Addr} (D : ZipApart z TI TO i1 i2 a b) :
    Turn P w K (.Name nm pn) (ItzT K a b) [z, TI, TO, i1, i2] z (fun i h => (∃ g f, ZC h z TI TO g f ∧ (g = .none ∨ ∃ T : Addr, g = rawInt T)) ∧ IsPair h TI (.ref i1) (.ref i2) ∧ (∃ x y, IsPair h TO x y) ∧ h.IsTupleIter i1 a i ∧ h.IsTupleIter i2 b i) where
  mem := List.mem_cons_self
  obj := by
    rintro i h ⟨⟨g, f, hz, _⟩, hI, ⟨x, y, hO⟩, ⟨o1, e1, _, d1⟩, ⟨o2, e2, _, d2⟩⟩ c hc
    simp only [List.mem_cons, List.not_mem_nil, or_false] at hc
    rcases hc with rfl | rfl | rfl | rfl | rfl
    · exact ⟨_, hz, nofun⟩
    · exact ⟨_, hI, nofun⟩
    · exact ⟨_, hO, nofun⟩
    · exact ⟨o1, e1, fun v q => by rw [d1] at q; cases q⟩
    · exact ⟨o2, e2, fun v q => by rw [d2] at q; cases q⟩
  keep := by
    rintro i h h' ⟨⟨g, f, hz, hg⟩, hI, ⟨x, y, hO⟩, t1, t2⟩ k
    exact ⟨⟨g, f, k z (by simp) _ hz, hg⟩, k TI (by simp) _ hI, ⟨x, y, k TO (by simp) _ hO⟩, t1.at fun o q => k i1 (by simp) o q, t2.at fun o q => k i2 (by simp) o q⟩
  item := by
    rintro X rfl rfl rfl calm i pins s σ H E I hf ⟨⟨g, f, hz, hg⟩, hI, ⟨x0, y0, hO⟩, t1, t2⟩ ⟨xs, ys, x, y, qx, qy, hx, hy⟩
    obtain ⟨its, rv, p, _⟩ := I.tuple qx
    obtain ⟨its2, rv2, p2, _⟩ := I.tuple qy
    obtain ⟨u, hu, ru⟩ := rv.get hx
    obtain ⟨u2, hu2, ru2⟩ := rv2.get hy
    refine zn_next D hz hg hI hO t1 t2 p p2 (x := u) (y := u2) (by simpa using hu) (by simpa using hu2) fun h' T f' c d z1 o1 n1 n2 new hk => ⟨_, rfl, ?_⟩
    have gone : ∀ c ∈ [z, TI, TO, i1, i2], c < s.heap.objs.size := by
      intro c hc
      simp only [List.mem_cons, List.not_mem_nil, or_false] at hc
      rcases hc with rfl | rfl | rfl | rfl | rfl
      · exact Heap.lt_size hz
      · exact Heap.lt_size hI
      · exact Heap.lt_size hO
      · exact Heap.lt_size t1.choose_spec.1
      · exact Heap.lt_size t2.choose_spec.1
    have ok : ObjOk X.prog X.w (upd H s.heap.objs.size (.tup [x, y])) h' s.heap.objs.size (.tup [x, y]) := ⟨by show 2 ≤ sizeLine; decide, [u, u2], .cons ru (.cons ru2 .nil), ⟨_, new, rfl, _, rfl⟩⟩
    have J := I.turnedNew (t' := s.toks) (ch := [z, TI, TO, i1, i2]) (fun c o hb q => hk c o (fun e => hb (by simp [e])) (fun e => hb (by simp [e])) (fun e => hb (by simp [e])) (fun e => hb (by simp [e])) q) hf (Nat.le_refl _) ok
    show wpAny (model X.prog X.w) X.A (pure ()) _ E _
    refine wpAny_pure ⟨.ref s.heap.objs.size, _, J, rfl, ⟨_, x, y, rfl, I.hok.fresh (Nat.le_refl _), rfl, fun l hl => ?_, fun l hl => ?_⟩, ⟨⟨_, f', z1, .inr ⟨T, rfl⟩⟩, hk _ _ D.TIz D.TITO D.TIi1 D.TIi2 hI, ⟨_, _, o1⟩, n1, n2⟩, fun c hc => ?_⟩
    · rw [I.tuple_inj hl qx]
      exact hx
    · rw [I.tuple_inj hl qy]
      exact hy
    · rw [upd_ne (Nat.ne_of_lt (gone c hc))]
      exact (hf c hc).1
  done := by
    rintro X rfl rfl rfl calm i pins s σ H E I hf ⟨⟨g, f, hz, hg⟩, hI, ⟨x0, y0, hO⟩, t1, t2⟩ ⟨xs, ys, qx, qy, over⟩
    obtain ⟨its, rv, p, _⟩ := I.tuple qx
    obtain ⟨its2, rv2, p2, _⟩ := I.tuple qy
    have len1 := rv.length
    have len2 := rv2.length
    have over' : its.toArray[i]? = none ∨ its2.toArray[i]? = none := over.imp (fun q => by simp; omega) fun q => by simp; omega
    exact zn_stop (I.ok.hd calm) D hz hg hI hO t1 t2 p p2 over' fun h' hk => ⟨rfl, I.turnedL (t' := s.toks) (ch := [z, TI, TO, i1, i2]) (fun c o hb q => hk c o (fun e => hb (by simp [e])) (fun e => hb (by simp [e])) (fun e => hb (by simp [e])) (fun e => hb (by simp [e])) q) hf⟩
  self := fun _ _ _ _ _ st h => let ⟨⟨_, _, hz, _⟩, _⟩ := st; zn_iter hz h
end
/-- zip(t, u) under one name -/
def iZipN (K : PySem.W.Frag) (ta : TA) : TI := fun σ H R => ta σ H fun vs H1 => ∃ a b xs ys, vs = [.ref a, .ref b] ∧ SqT K H1 a xs ∧ SqT K H1 b ys ∧ R (ItzT K a b) H1
theorem pi_zipN {X : Cx} {e e2 : Expr} {ta : TA} {p pos pn : Pos} {nm : Str} (hg : Gl X "zip") (hm : X.mg "zip" = none) (ha : PA X [e, e2] ta) (hs : starEach [e, e2] X.env = (false, eval e X.env) :: starEach [e2] X.env := by rfl) (hpl : (backTo pos (starEach [e2] X.env)).any (·.1) = false := by rfl) :
    PI X (.Name nm pn) (.Call (.Name "zip" p) [e, e2] [] pos) (iZipN X.K ta) := by
  refine ⟨fun pins s σ H R I h => Call_ (ld_blt I hg hm PyProof.Rows.boot_zip (PyProof.Rows.callWith_type1 (thn (ha.run pos pins s σ H _ I h) fun us s1 got => ?_) hs hpl))⟩
  obtain ⟨vs, H1, I1, rel, a, b, xs, ys, rfl, qx, qy, q⟩ := got
  obtain ⟨v1, v2, rfl, r1, r2⟩ : ∃ v1 v2, us = [v1, v2] ∧ RelV (.ref a) v1 ∧ RelV (.ref b) v2 := by
    cases rel with
    | cons r rr =>
      cases rr with
      | cons r' rr =>
        cases rr
        exact ⟨_, _, rfl, r, r'⟩
  cases r1
  cases r2
  obtain ⟨its, rv, p1, _⟩ := I1.tuple qx
  obtain ⟨its2, rv2, p2, _⟩ := I1.tuple qy
  have n1 := p1.choose_spec.1
  have n2 := p2.choose_spec.1
  refine call_zipT (show s1.heap.IsTuple a its.toArray from p1) (show s1.heap.IsTuple b its2.toArray from p2) fun h' hz hI hO t1 t2 _ hk => wpAny_pyIter_zip hz ?_
  refine ⟨_, [s1.heap.objs.size + 4, s1.heap.objs.size + 2, s1.heap.objs.size + 3, s1.heap.objs.size, s1.heap.objs.size + 1], _, _, H1, rfl, I1.kept (t' := s1.toks) hk, turn_zn (PySem.W.ktu_apart s1.heap.objs.size a b (Heap.lt_size n1) (Heap.lt_size n2)), ⟨⟨_, _, hz, .inl rfl⟩, hI, ⟨_, _, hO⟩, t1, t2⟩, fun c hc => ?_, q⟩
  have le : s1.heap.objs.size ≤ c := by
    simp only [List.mem_cons, List.not_mem_nil, or_false] at hc
    rcases hc with rfl | rfl | rfl | rfl | rfl
    · exact Nat.le_add_right _ _
    · exact Nat.le_add_right _ _
    · exact Nat.le_add_right _ _
    · exact Nat.le_refl _
    · exact Nat.le_add_right _ _
  exact I1.fpOk le (I1.hok.fresh le)
end Gx
/-! ### a tuple of texts of the module -/
namespace Gx
open PySem PySem.Spec PyProof.Rows L2
def strsV : List Value → Option (List Str)
  | [] => some []
  | .str x _ :: r => (strsV r).map (x :: ·)
  | _ :: _ => none
def tupW (K : PySem.W.Frag) (a : Addr) : Option (List Str) := match K.lookup a with
  | some ⟨_, _, .seq its _, _⟩ => if its.size ≤ sizeLine then strsV its.toList else none
  | _ => none
/-- at a: a tuple of the module with these texts -/
def KTs (K : PySem.W.Frag) (a : Addr) (xs : List Str) : Prop := ∀ H : Hp, SqT K H a (xs.map V.str)
theorem strsV_vals : ∀ {us : List Value} {xs : List Str}, strsV us = some xs → Vals (xs.map V.str) us
  | [], xs, h => by cases h; exact .nil
  | .str x t :: us, xs, h => by
    obtain ⟨ys, hy, rfl⟩ := Option.map_eq_some_iff.mp (show (strsV us).map (x :: ·) = some xs from h)
    exact .cons ⟨_, rfl⟩ (strsV_vals hy)
theorem kts_of {K : PySem.W.Frag} {a : Addr} {xs : List Str} (h : PySem.W.typeIn K (.ref a) = some (.type "tuple")) (g : tupW K a = some xs) : KTs K a xs := by
  intro H
  obtain ⟨o, ho, hc⟩ := Option.map_eq_some_iff.mp h
  unfold tupW at g
  rw [ho] at g
  obtain ⟨c, d, data, sl⟩ := o
  split at g
  · rename_i e
    cases e
    split at g
    · rename_i hz
      exact .inr ⟨_, _, _, ho, hc, rfl, hz, strsV_vals g⟩
    · cases g
  · cases g
/-- len(D), D a dict of the module -/
theorem iv_pairs {prog : Program} {w : World} : ∀ {l : List DictEntry} {kvs : List (Str × Int)}, ivs l = some kvs → ∃ ws : List (Str × Value), Pairs (strKind prog w) l ws ∧ ws.map (·.1) = kvs.map (·.1)
  | [], kvs, h => by
    cases h
    exact ⟨[], .nil, rfl⟩
  | e :: r, kvs, h => by
    unfold ivs at h
    split at h
    · rename_i y t i u l hk hv hl
      cases h
      obtain ⟨ws, h1, h2⟩ := iv_pairs (prog := prog) (w := w) hl
      refine ⟨(y, e.val) :: ws, .cons ?_ rfl h1, by simp [h2]⟩
      rw [hk]
      exact strKind_is prog w y t
    · cases h
def rLenK (a : Addr) (n : Nat) : List V → Hp → VK → Prop := fun xs H Q => xs = [.ref a] ∧ Q (.int (n : Nat)) H
theorem cr_lenK {X : Cx} {a : Addr} {kvs : List (Str × Int)} (k : KIv X.K X.w a kvs) (nd : (kvs.map (·.1)).Nodup) (sz : kvs.length ≤ 1000) : CallR X (.builtin "len") (rLenK a kvs.length) := by
  obtain ⟨es, n, h1, h2, h3, h4⟩ := k
  intro pins s σ H xs us Q I r h
  obtain ⟨rfl, q⟩ := h
  obtain ⟨u, rfl, ru⟩ := vals1 r
  cases ru
  obtain ⟨ws, p1, p2⟩ := iv_pairs (prog := X.prog) (w := X.w) h4
  have hl : ws.length = kvs.length := by have := congrArg List.length p2; simpa using this
  refine call_len_dict (knd := strKind X.prog X.w) (kvs := ws) h3 ⟨_, es, n, I.kIn _ _ h1, ⟨rfl, rfl, rfl⟩, rfl, fun e he => ?_, p1, by rw [p2]; exact nd⟩ (by omega) ?_
  · obtain ⟨x, t, e1, e2⟩ := h2.all e (Array.mem_toList_iff.mpr he)
    exact ⟨x, by rw [e1]; exact strKind_is X.prog X.w x t, e2⟩
  · exact ⟨.int kvs.length, H, I.tok _, by rw [hl]; exact ⟨_, rfl⟩, q⟩
theorem lenK {a : Addr} {n : Nat} {H : Hp} {Q : VK} (q : Q (.int (n : Nat)) H) : rLenK a n [.ref a] H Q := ⟨rfl, q⟩
end Gx
/-! ### ((texts ..), number): a tuple of the module -/
namespace Gx
open PySem PySem.Spec PyProof.Rows L2
def pairW (K : PySem.W.Frag) (a : Addr) : Option (Addr × Int) := match K.lookup a with
  | some ⟨_, _, .seq its _, _⟩ => match its.toList with
    | [.ref b, .int i _] => some (b, i)
    | _ => none
  | _ => none
theorem kp_of {K : PySem.W.Frag} {a b : Addr} {i : Int} (h : PySem.W.typeIn K (.ref a) = some (.type "tuple")) (g : pairW K a = some (b, i)) : ∀ H : Hp, SqT K H a [.ref b, .int i] := by
  intro H
  obtain ⟨o, ho, hc⟩ := Option.map_eq_some_iff.mp h
  unfold pairW at g
  rw [ho] at g
  obtain ⟨c, d, data, sl⟩ := o
  split at g
  · rename_i its n sl' e
    cases e
    split at g
    · rename_i b' i' t e2
      cases g
      refine .inr ⟨_, _, _, ho, hc, rfl, ?_, ?_⟩
      · have : its.size = 2 := by rw [← Array.length_toList, e2]; rfl
        rw [this, sizeLine_eq]
        decide
      · rw [e2]
        exact .cons rfl (.cons ⟨_, rfl⟩ .nil)
    · cases g
  · cases g
end Gx
local macro_rules | `(tactic| walk_at "side") => `(tactic| first | assumption | omega | exact Gx.cmulR (by omega) (by omega) | exact Gx.cmulL (by omega) (by omega) | exact Gx.cdiv (by omega) (by omega) | exact Gx.cpow (by omega) (by omega) (by omega) | exact Gx.line (by omega) | exact Gx.lineL (by omega) | (simp only [List.length_append, List.length_take, List.length_drop, List.length_cons, List.length_nil, List.length_map, List.length_range, List.length_reverse]; omega) | exact Int.emod_nonneg _ (by omega) | exact Int.emod_lt_of_pos _ (by omega))
local macro_rules | `(tactic| walk_at "hp") => `(tactic| first | assumption | exact upd_same | exact SqL.of (by assumption) | exact SqT.of (by assumption) | exact SqL.of upd_same | exact SqT.of upd_same)
local macro_rules | `(tactic| walk_at "g1") => `(tactic| first
  | with_reducible refine Gx.seq ?_ | with_reducible refine Gx.nx ?_ | with_reducible refine Gx.asg ?_ | with_reducible refine Gx.op ?_
  | ((with_reducible refine' Gx.var ?ka ?kb); (case ka => exact rfl))
  | walk_at "con"
  | with_reducible refine Gx.con ?_ | with_reducible refine Gx.i0 ?_
  | ((with_reducible refine' Gx.i1 ?ka ?kb); (case ka => walk_at "side"))
  | with_reducible refine Gx.eqM ?_ | with_reducible refine Gx.neM ?_
  | with_reducible refine Gx.eqI ?_ | with_reducible refine Gx.eqS ?_ | with_reducible refine Gx.neI ?_ | with_reducible refine Gx.neS ?_ | with_reducible refine Gx.eqB ?_ | with_reducible refine Gx.isB ?_
  | ((with_reducible refine Gx.name ?_); try dsimp only [List.set])
  | with_reducible refine Gx.exb ?_ | with_reducible refine Gx.exi ?_ | with_reducible refine Gx.exs ?_ | with_reducible refine Gx.exr ?_
  | with_reducible refine Gx.test ?_ | with_reducible refine Gx.tB ?_ | with_reducible refine Gx.cb ?_ | with_reducible refine Gx.acons ?_ | with_reducible refine Gx.anil ?_
  | with_reducible refine Gx.call ?_ | with_reducible refine Gx.call0 ?_ | with_reducible refine Gx.callS ?_
  | with_reducible refine Gx.ifs ?_ | with_reducible refine Gx.ret ?_ | with_reducible refine Gx.rt ?_ | with_reducible refine Gx.next ?_ | with_reducible refine Gx.drop ?_
  | with_reducible refine Gx.not ?_ | with_reducible refine Gx.and ?_ | with_reducible refine Gx.or ?_ | with_reducible refine Gx.notV ?_ | with_reducible refine Gx.andV ?_ | with_reducible refine Gx.orV ?_ | with_reducible refine Gx.ifE ?_
  | with_reducible refine Gx.itT ?_ | with_reducible refine Gx.itF ?_ | with_reducible refine Gx.itNF ?_ | with_reducible refine Gx.itNT ?_ | with_reducible refine Gx.ittt ?_ | with_reducible refine Gx.itff ?_ | with_reducible refine Gx.itNtt ?_ | with_reducible refine Gx.itNff ?_
  | with_reducible refine Gx.sl ?_ | with_reducible refine Gx.nopart ?_ | with_reducible refine Gx.part ?_
  | ((with_reducible refine' Gx.sA ?ka ?kc ?kb); (case ka => walk_at "side"); (case kc => walk_at "side")) | ((with_reducible refine' Gx.sB ?ka ?kc ?kb); (case ka => walk_at "side"); (case kc => walk_at "side"))
  | ((with_reducible refine' Gx.sC ?ka ?kd ?kc ?kb); (case ka => walk_at "side"); (case kc => walk_at "side"); (case kd => walk_at "side"))
  | ((with_reducible refine' Gx.addM ?ka ?kb); (case ka => walk_at "side")) | ((with_reducible refine' Gx.lenM ?ka ?kb); (case ka => walk_at "side"))
  | ((with_reducible refine' Gx.ixM ?ka ?kd ?kc ?kb); (case ka => walk_at "side"); (case kc => walk_at "side"); (case kd => walk_at "side"))
  | with_reducible refine Gx.isNn ?_ | with_reducible refine Gx.isNi ?_ | with_reducible refine Gx.isNs ?_ | with_reducible refine Gx.isNb ?_ | with_reducible refine Gx.isNr ?_ | with_reducible refine Gx.notNn ?_ | with_reducible refine Gx.notNi ?_ | with_reducible refine Gx.notNs ?_ | with_reducible refine Gx.notNb ?_ | with_reducible refine Gx.notNr ?_
  | with_reducible refine Gx.sfld ?_ | with_reducible refine Gx.meth ?_ | with_reducible refine Gx.make ?_
  | with_reducible refine Gx.isi_ni ?_ | with_reducible refine Gx.isi_nb ?_ | with_reducible refine Gx.isi_ns ?_ | with_reducible refine Gx.isi_nl ?_ | with_reducible refine Gx.isi_nt ?_ | with_reducible refine Gx.isi_ii ?_
  | with_reducible refine Gx.isi_ib ?_ | with_reducible refine Gx.isi_is ?_ | with_reducible refine Gx.isi_il ?_ | with_reducible refine Gx.isi_it ?_ | with_reducible refine Gx.isi_si ?_ | with_reducible refine Gx.isi_sb ?_
  | with_reducible refine Gx.isi_ss ?_ | with_reducible refine Gx.isi_sl ?_ | with_reducible refine Gx.isi_st ?_ | with_reducible refine Gx.isi_bi ?_ | with_reducible refine Gx.isi_bb ?_ | with_reducible refine Gx.isi_bs ?_
  | with_reducible refine Gx.isi_bl ?_ | with_reducible refine Gx.isi_bt ?_ | ((with_reducible refine' Gx.isi_Li ?ka ?kb); (case ka => walk_at "hp")) | ((with_reducible refine' Gx.isi_Lb ?ka ?kb); (case ka => walk_at "hp")) | ((with_reducible refine' Gx.isi_Ls ?ka ?kb); (case ka => walk_at "hp")) | ((with_reducible refine' Gx.isi_Ll ?ka ?kb); (case ka => walk_at "hp"))
  | ((with_reducible refine' Gx.isi_Lt ?ka ?kb); (case ka => walk_at "hp")) | ((with_reducible refine' Gx.isi_Ti ?ka ?kb); (case ka => walk_at "hp")) | ((with_reducible refine' Gx.isi_Tb ?ka ?kb); (case ka => walk_at "hp")) | ((with_reducible refine' Gx.isi_Ts ?ka ?kb); (case ka => walk_at "hp")) | ((with_reducible refine' Gx.isi_Tl ?ka ?kb); (case ka => walk_at "hp")) | ((with_reducible refine' Gx.isi_Tt ?ka ?kb); (case ka => walk_at "hp"))
  | with_reducible refine Gx.strB ?_ | with_reducible refine Gx.prop ?_ | with_reducible refine Gx.callO ?_ | with_reducible refine Gx.methS ?_
  | with_reducible refine Gx.fld ?_ | with_reducible refine Gx.m1 ?_ | with_reducible refine Gx.isS ?_
  | ((with_reducible refine' Gx.slS ?ka ?kb); (case ka => walk_at "side"))
  | with_reducible refine Gx.un ?_ | with_reducible refine Gx.iu ?_
  | ((with_reducible refine' Gx.aug ?ka ?kb); (case ka => exact rfl)) | ((with_reducible refine Gx.ipi ?_); try dsimp only [List.set])
  | ((with_reducible refine' Gx.addS ?ka ?kb); (case ka => walk_at "side")) | ((with_reducible refine' Gx.lenS ?ka ?kb); (case ka => walk_at "side"))
  | ((with_reducible refine' Gx.lenLm ?ka ?kb); (case ka => walk_at "hp")) | ((with_reducible refine' Gx.lenTm ?ka ?kb); (case ka => walk_at "hp"))
  | ((with_reducible refine' Gx.ixLI ?ka ?kc ?kd ?kb); (case ka => walk_at "hp"); (case kc => walk_at "side"); (case kd => walk_at "side"))
  | ((with_reducible refine' Gx.ixT ?ka ?kc ?kb); (case ka => walk_at "hp"); (case kc => rfl))
  | ((with_reducible refine' Gx.lenL ?ka ?kb); (case ka => walk_at "hp")) | ((with_reducible refine' Gx.lenT ?ka ?kb); (case ka => walk_at "hp"))
  | with_reducible refine Gx.abs ?_ | with_reducible refine Gx.min2 ?_ | with_reducible refine Gx.max2 ?_ | with_reducible refine Gx.int1 ?_
  | with_reducible refine Gx.bm ?_ | with_reducible refine Gx.bm0 ?_ | ((with_reducible refine' Gx.tyL ?ka ?kb); (case ka => walk_at "hp"))
  | ((with_reducible refine' Gx.appI ?ka ?kc ?kb); (case ka => walk_at "hp"); (case kc => walk_at "side")) | ((with_reducible refine' Gx.appS ?ka ?kc ?kb); (case ka => walk_at "hp"); (case kc => walk_at "side")) | ((with_reducible refine' Gx.appR ?ka ?kc ?kb); (case ka => walk_at "hp"); (case kc => walk_at "side"))
  | ((with_reducible refine' Gx.app ?ka ?kc ?kb); (case ka => walk_at "hp"); (case kc => walk_at "side"))
  | with_reducible refine Gx.for_ ?_ | with_reducible refine Gx.rng1 ?_ | with_reducible refine Gx.rng2 ?_ | with_reducible refine Gx.ilst ?_ | with_reducible refine Gx.itup ?_ | with_reducible refine Gx.lc ?_ | with_reducible refine Gx.yes ?_
  | with_reducible refine Gx.isq ?_ | with_reducible refine Gx.din ?_ | with_reducible refine Gx.dnotin ?_ | with_reducible refine Gx.dget ?_ | with_reducible refine Gx.dput ?_ | with_reducible refine Gx.dnewK ?_ | with_reducible refine Gx.disp1 ?_ | with_reducible refine Gx.nin ?_ | with_reducible refine Gx.nnotin ?_ | with_reducible refine Gx.nget ?_ | with_reducible refine Gx.nput ?_ | with_reducible refine Gx.nnew ?_ | with_reducible refine Gx.dc ?_ | with_reducible refine Gx.kget ?_ | with_reducible refine Gx.ndisp ?_ | with_reducible refine Gx.izn ?_ | with_reducible refine Gx.inK ?_ | with_reducible refine Gx.inSg ?_ | with_reducible refine Gx.notInSg ?_ | with_reducible refine Gx.gsub ?_ | with_reducible refine Gx.neB ?_ | with_reducible refine Gx.istr ?_ | with_reducible refine Gx.boolB ?_ | with_reducible refine Gx.intB ?_ | with_reducible refine Gx.gtup ?_ | with_reducible refine Gx.gcons ?_ | with_reducible refine Gx.gnil ?_ | with_reducible refine Gx.ienumT ?_ | with_reducible refine Gx.iitems ?_ | with_reducible refine Gx.ikeys ?_ | with_reducible refine Gx.callN ?_ | with_reducible refine Gx.callNS ?_ | with_reducible refine Gx.lenSet ?_ | with_reducible refine Gx.listVals ?_
  | with_reducible refine Gx.tup ?_ | with_reducible refine Gx.lst ?_ | with_reducible refine Gx.retN ?_ | with_reducible refine Gx.brk ?_ | with_reducible refine Gx.cont ?_ | with_reducible refine Gx.bk ?_ | with_reducible refine Gx.ct ?_)
local macro_rules | `(tactic| walk_at "g") => `(tactic| repeat walk_at "g1")
namespace K15
open PySem PySem.Spec PyProof.Rows L2
def topS (i : Nat) : Stmt := PySem.Challenge.pw_textsputback_k15_solved_equations.main.body.getD i (.Pass ⟨0, 0, 0, 0⟩)
theorem bt_abs : bootBuiltins "abs" = some (.builtin "abs") := by decide +kernel
theorem bt_bool : bootBuiltins "bool" = some (.type "bool") := by decide +kernel
theorem bt_int : bootBuiltins "int" = some (.type "int") := by decide +kernel
theorem bt_isinstance : bootBuiltins "isinstance" = some (.builtin "isinstance") := by decide +kernel
theorem bt_len : bootBuiltins "len" = some (.builtin "len") := by decide +kernel
theorem bt_list : bootBuiltins "list" = some (.type "list") := by decide +kernel
theorem bt_min : bootBuiltins "min" = some (.builtin "min") := by decide +kernel
theorem bt_sorted : bootBuiltins "sorted" = some (.builtin "sorted") := by decide +kernel
theorem bt_str : bootBuiltins "str" = some (.type "str") := by decide +kernel
theorem bt_sum : bootBuiltins "sum" = some (.builtin "sum") := by decide +kernel
theorem bt_tuple : bootBuiltins "tuple" = some (.type "tuple") := by decide +kernel
theorem ks0 : Str.ofString "seq" = Gx.mkS [115, 101, 113] := by decide +kernel
theorem ks1 : Str.ofString "alt" = Gx.mkS [97, 108, 116] := by decide +kernel
theorem ks2 : Str.ofString "one" = Gx.mkS [111, 110, 101] := by decide +kernel
theorem ks3 : Str.ofString "" = Gx.mkS [] := by decide +kernel
theorem ks4 : Str.ofString "star" = Gx.mkS [115, 116, 97, 114] := by decide +kernel
theorem ks5 : Str.ofString "other" = Gx.mkS [111, 116, 104, 101, 114] := by decide +kernel
theorem ks6 : Str.ofString "none" = Gx.mkS [110, 111, 110, 101] := by decide +kernel
theorem ks7 : Str.ofString "truth" = Gx.mkS [116, 114, 117, 116, 104] := by decide +kernel
theorem ks8 : Str.ofString "number" = Gx.mkS [110, 117, 109, 98, 101, 114] := by decide +kernel
theorem ks9 : Str.ofString "text" = Gx.mkS [116, 101, 120, 116] := by decide +kernel
theorem ks10 : Str.ofString "list" = Gx.mkS [108, 105, 115, 116] := by decide +kernel
theorem ks11 : Str.ofString "tuple" = Gx.mkS [116, 117, 112, 108, 101] := by decide +kernel
theorem ks12 : Str.ofString ":;abc" = Gx.mkS [58, 59, 97, 98, 99] := by decide +kernel
theorem ks13 : Str.ofString "word" = Gx.mkS [119, 111, 114, 100] := by decide +kernel
theorem ks14 : Str.ofString "told" = Gx.mkS [116, 111, 108, 100] := by decide +kernel
theorem ks15 : Str.ofString "refused" = Gx.mkS [114, 101, 102, 117, 115, 101, 100] := by decide +kernel
abbrev s_TooMany_init : Stmt := inClass (topS 2) 0
theorem st_TooMany_init {x0 x1 : V} : L2.start ["self", "limit"] [x0, x1] = [some x0, some x1] := rfl
theorem sc_TooMany_init : FnScope ["self", "limit"] ["self", "limit"] (defScope s_TooMany_init) := ⟨rfl, rfl, rfl, by decide +kernel, rfl, by decide +kernel, by decide +kernel⟩
abbrev s_reached : Stmt := topS 7
theorem st_reached {x0 : V} : L2.start ["rows", "order", "seen", "at", "target"] [x0] = [some x0, none, none, none, none] := rfl
theorem sc_reached : FnScope ["rows", "order", "seen", "at", "target"] ["rows"] (defScope s_reached) := ⟨rfl, rfl, rfl, by decide +kernel, rfl, by decide +kernel, by decide +kernel⟩
abbrev s_refined : Stmt := topS 8
theorem st_refined {x0 x1 x2 : V} : L2.start ["rows", "order", "marks", "numbers", "finer", "state", "row", "sign", "target"] [x0, x1, x2] = [some x0, some x1, some x2, none, none, none, none, none, none] := rfl
theorem sc_refined : FnScope ["rows", "order", "marks", "numbers", "finer", "state", "row", "sign", "target"] ["rows", "order", "marks"] (defScope s_refined) := ⟨rfl, rfl, rfl, by decide +kernel, rfl, by decide +kernel, by decide +kernel⟩
abbrev s_classes : Stmt := topS 9
theorem st_classes {x0 x1 x2 : V} : L2.start ["rows", "finals", "order", "marks", "state", "many", "_", "step"] [x0, x1, x2] = [some x0, some x1, some x2, none, none, none, none, none] := rfl
theorem sc_classes : FnScope ["rows", "finals", "order", "marks", "state", "many", "_", "step"] ["rows", "finals", "order"] (defScope s_classes) := ⟨rfl, rfl, rfl, by decide +kernel, rfl, by decide +kernel, by decide +kernel⟩
abbrev s_least : Stmt := topS 10
theorem st_least {x0 x1 : V} : L2.start ["rows", "finals", "marks", "names", "picked", "least_rows", "at", "row", "target", "mark", "state"] [x0, x1] = [some x0, some x1, none, none, none, none, none, none, none, none, none] := rfl
theorem sc_least : FnScope ["rows", "finals", "marks", "names", "picked", "least_rows", "at", "row", "target", "mark", "state"] ["rows", "finals"] (defScope s_least) := ⟨rfl, rfl, rfl, by decide +kernel, rfl, by decide +kernel, by decide +kernel⟩
abbrev s_Machine_init : Stmt := inClass (topS 11) 0
theorem st_Machine_init {x0 x1 x2 : V} : L2.start ["self", "rows", "finals", "shape"] [x0, x1, x2] = [some x0, some x1, some x2, none] := rfl
theorem sc_Machine_init : FnScope ["self", "rows", "finals", "shape"] ["self", "rows", "finals"] (defScope s_Machine_init) := ⟨rfl, rfl, rfl, by decide +kernel, rfl, by decide +kernel, by decide +kernel⟩
abbrev s_Machine_states : Stmt := inClass (topS 11) 1
theorem st_Machine_states {x0 : V} : L2.start ["self"] [x0] = [some x0] := rfl
theorem sc_Machine_states : FnScope ["self"] ["self"] (defScope s_Machine_states) := ⟨rfl, rfl, rfl, by decide +kernel, rfl, by decide +kernel, by decide +kernel⟩
abbrev s_Machine_state_after : Stmt := inClass (topS 11) 2
theorem st_Machine_state_after {x0 x1 : V} : L2.start ["self", "text", "state", "char", "place"] [x0, x1] = [some x0, some x1, none, none, none] := rfl
theorem sc_Machine_state_after : FnScope ["self", "text", "state", "char", "place"] ["self", "text"] (defScope s_Machine_state_after) := ⟨rfl, rfl, rfl, by decide +kernel, rfl, by decide +kernel, by decide +kernel⟩
abbrev s_Machine_contains : Stmt := inClass (topS 11) 3
theorem st_Machine_contains {x0 x1 : V} : L2.start ["self", "text", "state"] [x0, x1] = [some x0, some x1, none] := rfl
theorem sc_Machine_contains : FnScope ["self", "text", "state"] ["self", "text"] (defScope s_Machine_contains) := ⟨rfl, rfl, rfl, by decide +kernel, rfl, by decide +kernel, by decide +kernel⟩
abbrev s_Machine_eq : Stmt := inClass (topS 11) 4
theorem st_Machine_eq {x0 x1 : V} : L2.start ["self", "other"] [x0, x1] = [some x0, some x1] := rfl
theorem sc_Machine_eq : FnScope ["self", "other"] ["self", "other"] (defScope s_Machine_eq) := ⟨rfl, rfl, rfl, by decide +kernel, rfl, by decide +kernel, by decide +kernel⟩
abbrev s_Machine_and : Stmt := inClass (topS 11) 5
theorem st_Machine_and {x0 x1 : V} : L2.start ["self", "other"] [x0, x1] = [some x0, some x1] := rfl
theorem sc_Machine_and : FnScope ["self", "other"] ["self", "other"] (defScope s_Machine_and) := ⟨rfl, rfl, rfl, by decide +kernel, rfl, by decide +kernel, by decide +kernel⟩
abbrev s_Machine_or : Stmt := inClass (topS 11) 6
theorem st_Machine_or {x0 x1 : V} : L2.start ["self", "other"] [x0, x1] = [some x0, some x1] := rfl
theorem sc_Machine_or : FnScope ["self", "other"] ["self", "other"] (defScope s_Machine_or) := ⟨rfl, rfl, rfl, by decide +kernel, rfl, by decide +kernel, by decide +kernel⟩
abbrev s_Machine_sub : Stmt := inClass (topS 11) 7
theorem st_Machine_sub {x0 x1 : V} : L2.start ["self", "other"] [x0, x1] = [some x0, some x1] := rfl
theorem sc_Machine_sub : FnScope ["self", "other"] ["self", "other"] (defScope s_Machine_sub) := ⟨rfl, rfl, rfl, by decide +kernel, rfl, by decide +kernel, by decide +kernel⟩
abbrev s_Machine_invert : Stmt := inClass (topS 11) 8
theorem st_Machine_invert {x0 : V} : L2.start ["self", "final"] [x0] = [some x0, none] := rfl
theorem sc_Machine_invert : FnScope ["self", "final"] ["self"] (defScope s_Machine_invert) := ⟨rfl, rfl, rfl, by decide +kernel, rfl, by decide +kernel, by decide +kernel⟩
abbrev s_decided : Stmt := topS 12
theorem st_decided {x0 x1 x2 : V} : L2.start ["one", "two", "rule"] [x0, x1, x2] = [some x0, some x1, some x2] := rfl
theorem sc_decided : FnScope ["one", "two", "rule"] ["one", "two", "rule"] (defScope s_decided) := ⟨rfl, rfl, rfl, by decide +kernel, rfl, by decide +kernel, by decide +kernel⟩
abbrev s_product : Stmt := topS 13
theorem st_product {x0 x1 x2 : V} : L2.start ["one", "two", "rule", "order", "seen", "rows", "finals", "at", "left", "right", "row", "pair"] [x0, x1, x2] = [some x0, some x1, some x2, none, none, none, none, none, none, none, none, none] := rfl
theorem sc_product : FnScope ["one", "two", "rule", "order", "seen", "rows", "finals", "at", "left", "right", "row", "pair"] ["one", "two", "rule"] (defScope s_product) := ⟨rfl, rfl, rfl, by decide +kernel, rfl, by decide +kernel, by decide +kernel⟩
abbrev s_dead_state : Stmt := topS 15
theorem st_dead_state {x0 : V} : L2.start ["machine", "state"] [x0] = [some x0, none] := rfl
theorem sc_dead_state : FnScope ["machine", "state"] ["machine"] (defScope s_dead_state) := ⟨rfl, rfl, rfl, by decide +kernel, rfl, by decide +kernel, by decide +kernel⟩
abbrev s_sized : Stmt := topS 18
theorem st_sized {x0 x1 x2 : V} : L2.start ["kind", "parts", "most", "size", "part"] [x0, x1, x2] = [some x0, some x1, some x2, none, none] := rfl
theorem sc_sized : FnScope ["kind", "parts", "most", "size", "part"] ["kind", "parts", "most"] (defScope s_sized) := ⟨rfl, rfl, rfl, by decide +kernel, rfl, by decide +kernel, by decide +kernel⟩
abbrev s_in_front : Stmt := topS 19
theorem st_in_front {x0 x1 x2 : V} : L2.start ["first", "part", "most"] [x0, x1, x2] = [some x0, some x1, some x2] := rfl
theorem sc_in_front : FnScope ["first", "part", "most"] ["first", "part", "most"] (defScope s_in_front) := ⟨rfl, rfl, rfl, by decide +kernel, rfl, by decide +kernel, by decide +kernel⟩
abbrev s_added : Stmt := topS 20
theorem st_added {x0 x1 x2 x3 : V} : L2.start ["known", "key", "part", "most"] [x0, x1, x2, x3] = [some x0, some x1, some x2, some x3] := rfl
theorem sc_added : FnScope ["known", "key", "part", "most"] ["known", "key", "part", "most"] (defScope s_added) := ⟨rfl, rfl, rfl, by decide +kernel, rfl, by decide +kernel, by decide +kernel⟩
abbrev s_equation : Stmt := topS 21
theorem st_equation {x0 x1 x2 : V} : L2.start ["machine", "state", "dead", "signs", "sign", "target", "terms"] [x0, x1, x2] = [some x0, some x1, some x2, none, none, none, none] := rfl
theorem sc_equation : FnScope ["machine", "state", "dead", "signs", "sign", "target", "terms"] ["machine", "state", "dead"] (defScope s_equation) := ⟨rfl, rfl, rfl, by decide +kernel, rfl, by decide +kernel, by decide +kernel⟩
abbrev s_solved : Stmt := topS 22
theorem st_solved {x0 x1 x2 : V} : L2.start ["terms", "state", "most", "loop", "target"] [x0, x1, x2] = [some x0, some x1, some x2, none, none] := rfl
theorem sc_solved : FnScope ["terms", "state", "most", "loop", "target"] ["terms", "state", "most"] (defScope s_solved) := ⟨rfl, rfl, rfl, by decide +kernel, rfl, by decide +kernel, by decide +kernel⟩
abbrev s_pattern_of : Stmt := topS 23
theorem st_pattern_of {x0 x1 : V} : L2.start ["machine", "most", "dead", "known", "state", "terms", "earlier", "first", "target"] [x0, x1] = [some x0, some x1, none, none, none, none, none, none, none] := rfl
theorem sc_pattern_of : FnScope ["machine", "most", "dead", "known", "state", "terms", "earlier", "first", "target"] ["machine", "most"] (defScope s_pattern_of) := ⟨rfl, rfl, rfl, by decide +kernel, rfl, by decide +kernel, by decide +kernel⟩
abbrev s__law_mix : Stmt := topS 25
theorem st__law_mix {x0 x1 : V} : L2.start ["cell", "k", "first", "second"] [x0, x1] = [some x0, some x1, none, none] := rfl
theorem sc__law_mix : FnScope ["cell", "k", "first", "second"] ["cell", "k"] (defScope s__law_mix) := ⟨rfl, rfl, rfl, by decide +kernel, rfl, by decide +kernel, by decide +kernel⟩
abbrev s__law_stream : Stmt := topS 26
theorem st__law_stream {x0 x1 : V} : L2.start ["script", "many", "rest", "found", "k", "cell"] [x0, x1] = [some x0, some x1, none, none, none, none] := rfl
theorem sc__law_stream : FnScope ["script", "many", "rest", "found", "k", "cell"] ["script", "many"] (defScope s__law_stream) := ⟨rfl, rfl, rfl, by decide +kernel, rfl, by decide +kernel, by decide +kernel⟩
abbrev s__law_pick : Stmt := topS 27
theorem st__law_pick {x0 x1 x2 : V} : L2.start ["numbers", "at", "many"] [x0, x1, x2] = [some x0, some x1, some x2] := rfl
theorem sc__law_pick : FnScope ["numbers", "at", "many"] ["numbers", "at", "many"] (defScope s__law_pick) := ⟨rfl, rfl, rfl, by decide +kernel, rfl, by decide +kernel, by decide +kernel⟩
abbrev s__law_kind : Stmt := topS 28
theorem st__law_kind {x0 : V} : L2.start ["value", "item"] [x0] = [some x0, none] := rfl
theorem sc__law_kind : FnScope ["value", "item"] ["value"] (defScope s__law_kind) := ⟨rfl, rfl, rfl, by decide +kernel, rfl, by decide +kernel, by decide +kernel⟩
abbrev s__law_same : Stmt := topS 29
theorem st__law_same {x0 x1 : V} : L2.start ["answer", "due"] [x0, x1] = [some x0, some x1] := rfl
theorem sc__law_same : FnScope ["answer", "due"] ["answer", "due"] (defScope s__law_same) := ⟨rfl, rfl, rfl, by decide +kernel, rfl, by decide +kernel, by decide +kernel⟩
abbrev s__law_apart : Stmt := topS 30
theorem st__law_apart {x0 x1 : V} : L2.start ["rows", "finals", "many", "apart", "q", "p", "turn", "changed", "hits", "k"] [x0, x1] = [some x0, some x1, none, none, none, none, none, none, none, none] := rfl
theorem sc__law_apart : FnScope ["rows", "finals", "many", "apart", "q", "p", "turn", "changed", "hits", "k"] ["rows", "finals"] (defScope s__law_apart) := ⟨rfl, rfl, rfl, by decide +kernel, rfl, by decide +kernel, by decide +kernel⟩
abbrev s__law_least : Stmt := topS 31
theorem st__law_least {x0 x1 : V} : L2.start ["rows", "finals", "apart", "heads", "q", "p", "joined", "target", "row", "order", "k", "due_rows", "state"] [x0, x1] = [some x0, some x1, none, none, none, none, none, none, none, none, none, none, none] := rfl
theorem sc__law_least : FnScope ["rows", "finals", "apart", "heads", "q", "p", "joined", "target", "row", "order", "k", "due_rows", "state"] ["rows", "finals"] (defScope s__law_least) := ⟨rfl, rfl, rfl, by decide +kernel, rfl, by decide +kernel, by decide +kernel⟩
abbrev s__law_drawn : Stmt := topS 32
theorem st__law_drawn {x0 x1 : V} : L2.start ["numbers", "first", "kind", "base", "wide", "rows", "state", "drawn", "k", "target", "finals"] [x0, x1] = [some x0, some x1, none, none, none, none, none, none, none, none, none] := rfl
theorem sc__law_drawn : FnScope ["numbers", "first", "kind", "base", "wide", "rows", "state", "drawn", "k", "target", "finals"] ["numbers", "first"] (defScope s__law_drawn) := ⟨rfl, rfl, rfl, by decide +kernel, rfl, by decide +kernel, by decide +kernel⟩
abbrev s__law_ladder : Stmt := topS 33
theorem st__law_ladder {x0 x1 : V} : L2.start ["numbers", "first", "base", "rows", "state", "row", "back", "k", "pick", "target", "finals"] [x0, x1] = [some x0, some x1, none, none, none, none, none, none, none, none, none] := rfl
theorem sc__law_ladder : FnScope ["numbers", "first", "base", "rows", "state", "row", "back", "k", "pick", "target", "finals"] ["numbers", "first"] (defScope s__law_ladder) := ⟨rfl, rfl, rfl, by decide +kernel, rfl, by decide +kernel, by decide +kernel⟩
abbrev s__law_live : Stmt := topS 34
theorem st__law_live {x0 x1 : V} : L2.start ["rows", "finals", "live", "turn", "state", "target"] [x0, x1] = [some x0, some x1, none, none, none, none] := rfl
theorem sc__law_live : FnScope ["rows", "finals", "live", "turn", "state", "target"] ["rows", "finals"] (defScope s__law_live) := ⟨rfl, rfl, rfl, by decide +kernel, rfl, by decide +kernel, by decide +kernel⟩
abbrev s__law_equation : Stmt := topS 35
theorem st__law_equation {x0 x1 x2 x3 : V} : L2.start ["rows", "finals", "live", "state", "terms", "target", "signs", "k"] [x0, x1, x2, x3] = [some x0, some x1, some x2, some x3, none, none, none, none] := rfl
theorem sc__law_equation : FnScope ["rows", "finals", "live", "state", "terms", "target", "signs", "k"] ["rows", "finals", "live", "state"] (defScope s__law_equation) := ⟨rfl, rfl, rfl, by decide +kernel, rfl, by decide +kernel, by decide +kernel⟩
abbrev s__law_before : Stmt := topS 36
theorem st__law_before {x0 x1 : V} : L2.start ["one", "two"] [x0, x1] = [some x0, some x1] := rfl
theorem sc__law_before : FnScope ["one", "two"] ["one", "two"] (defScope s__law_before) := ⟨rfl, rfl, rfl, by decide +kernel, rfl, by decide +kernel, by decide +kernel⟩
abbrev s__law_added : Stmt := topS 37
theorem st__law_added {x0 x1 : V} : L2.start ["one", "two"] [x0, x1] = [some x0, some x1] := rfl
theorem sc__law_added : FnScope ["one", "two"] ["one", "two"] (defScope s__law_added) := ⟨rfl, rfl, rfl, by decide +kernel, rfl, by decide +kernel, by decide +kernel⟩
abbrev s__law_solved : Stmt := topS 38
theorem st__law_solved {x0 x1 : V} : L2.start ["rows", "finals", "many", "live", "known", "state", "turn", "loop", "at", "smaller", "first", "more"] [x0, x1] = [some x0, some x1, none, none, none, none, none, none, none, none, none, none] := rfl
theorem sc__law_solved : FnScope ["rows", "finals", "many", "live", "known", "state", "turn", "loop", "at", "smaller", "first", "more"] ["rows", "finals"] (defScope s__law_solved) := ⟨rfl, rfl, rfl, by decide +kernel, rfl, by decide +kernel, by decide +kernel⟩
abbrev s__law_tried : Stmt := topS 39
theorem st__law_tried {x0 x1 : V} : L2.start ["machine", "wide", "answer", "e"] [x0, x1] = [some x0, some x1, none, none] := rfl
theorem sc__law_tried : FnScope ["machine", "wide", "answer", "e"] ["machine", "wide"] (defScope s__law_tried) := ⟨rfl, rfl, rfl, by decide +kernel, rfl, by decide +kernel, by decide +kernel⟩
abbrev s__law_told : Stmt := topS 40
theorem st__law_told {x0 : V} : L2.start ["automaton", "machine", "row", "due", "solved_v", "wide", "limit", "wanted"] [x0] = [some x0, none, none, none, none, none, none, none] := rfl
theorem sc__law_told : FnScope ["automaton", "machine", "row", "due", "solved_v", "wide", "limit", "wanted"] ["automaton"] (defScope s__law_told) := ⟨rfl, rfl, rfl, by decide +kernel, rfl, by decide +kernel, by decide +kernel⟩
abbrev s_law : Stmt := topS 41
theorem st_law {x0 : V} : L2.start ["script", "numbers"] [x0] = [some x0, none] := rfl
theorem sc_law : FnScope ["script", "numbers"] ["script"] (defScope s_law) := ⟨rfl, rfl, rfl, by decide +kernel, rfl, by decide +kernel, by decide +kernel⟩
structure Txt (K : PySem.W.Frag) (mg : Str → Option Value) (w : World) where
  a_LensError : Addr
  g_LensError : mg "LensError" = some (.ref a_LensError)
  k_LensError : PySem.W.keepIn K (.ref a_LensError) = true
  x_LensError : PySem.W.excIn K a_LensError [.type "ValueError", .type "Exception", .type "BaseException", .type "object"] "ValueError.__new__" = true
  bP_LensError : PySem.W.subIn K (.ref a_LensError) (.type "BaseException") = some true
  tP_LensError : PySem.W.typeIn K (.ref a_LensError) = some (.type "type")
  iP_LensError : PySem.W.isClsIn K a_LensError = true
  a_TooMany : Addr
  g_TooMany : mg "TooMany" = some (.ref a_TooMany)
  k_TooMany : PySem.W.keepIn K (.ref a_TooMany) = true
  o_TooMany : OexC K a_TooMany
  ec_TooMany : ExcC K a_TooMany
  on_TooMany : PySem.W.findIn K (.ref a_TooMany) "limit" = some none
  a_Machine : Addr
  g_Machine : mg "Machine" = some (.ref a_Machine)
  k_Machine : PySem.W.keepIn K (.ref a_Machine) = true
  c_Machine : Cls K a_Machine
  n_Machine_rows : NoAttr K a_Machine "rows"
  n_Machine_finals : NoAttr K a_Machine "finals"
  ha_Machine : PySem.W.findIn K (.ref a_Machine) "__class__" = some (some (.builtin "object.__class__"))
  hm_Machine : PySem.W.mroIn K a_Machine (.type "object") = some true
  hn_ : PySem.W.specialIn K (.builtin "object.__class__") "__get__" = some (some (.builtin "getset_descriptor.__get__"))
  htk_ : PySem.W.takesIn K (.builtin "object.__class__") = some true
  f_TooMany_init : Addr
  fd_TooMany_init : FuncData
  F_TooMany_init : Fun K "__init__" "TooMany.__init__" s_TooMany_init f_TooMany_init fd_TooMany_init
  b_TooMany_init : Binds K fd_TooMany_init ["self", "limit"] []
  oi_TooMany : PySem.W.findIn K (.ref a_TooMany) "__init__" = some (some (.ref f_TooMany_init))
  ot_TooMany : PySem.W.typeIn K (.ref f_TooMany_init) = some (.type "function")
  f_reached : Addr
  fd_reached : FuncData
  F_reached : Fun K "reached" "reached" s_reached f_reached fd_reached
  b_reached : Binds K fd_reached ["rows"] []
  g_reached : mg "reached" = some (.ref f_reached)
  f_refined : Addr
  fd_refined : FuncData
  F_refined : Fun K "refined" "refined" s_refined f_refined fd_refined
  b_refined : Binds K fd_refined ["rows", "order", "marks"] []
  g_refined : mg "refined" = some (.ref f_refined)
  f_classes : Addr
  fd_classes : FuncData
  F_classes : Fun K "classes" "classes" s_classes f_classes fd_classes
  b_classes : Binds K fd_classes ["rows", "finals", "order"] []
  g_classes : mg "classes" = some (.ref f_classes)
  f_least : Addr
  fd_least : FuncData
  F_least : Fun K "least" "least" s_least f_least fd_least
  b_least : Binds K fd_least ["rows", "finals"] []
  g_least : mg "least" = some (.ref f_least)
  f_Machine_init : Addr
  fd_Machine_init : FuncData
  F_Machine_init : Fun K "__init__" "Machine.__init__" s_Machine_init f_Machine_init fd_Machine_init
  b_Machine_init : Binds K fd_Machine_init ["self", "rows", "finals"] []
  m_Machine_init : Meth K a_Machine "__init__" f_Machine_init
  M_Machine : Mk K a_Machine f_Machine_init
  f_Machine_states : Addr
  fd_Machine_states : FuncData
  F_Machine_states : Fun K "states" "Machine.states" s_Machine_states f_Machine_states fd_Machine_states
  b_Machine_states : Binds K fd_Machine_states ["self"] []
  p_Machine_states : Addr
  pr_Machine_states : PropOf K a_Machine "states" p_Machine_states f_Machine_states
  f_Machine_state_after : Addr
  fd_Machine_state_after : FuncData
  F_Machine_state_after : Fun K "state_after" "Machine.state_after" s_Machine_state_after f_Machine_state_after fd_Machine_state_after
  b_Machine_state_after : Binds K fd_Machine_state_after ["self", "text"] []
  m_Machine_state_after : Meth K a_Machine "state_after" f_Machine_state_after
  f_Machine_contains : Addr
  fd_Machine_contains : FuncData
  F_Machine_contains : Fun K "__contains__" "Machine.__contains__" s_Machine_contains f_Machine_contains fd_Machine_contains
  b_Machine_contains : Binds K fd_Machine_contains ["self", "text"] []
  m_Machine_contains : Meth K a_Machine "__contains__" f_Machine_contains
  f_Machine_eq : Addr
  fd_Machine_eq : FuncData
  F_Machine_eq : Fun K "__eq__" "Machine.__eq__" s_Machine_eq f_Machine_eq fd_Machine_eq
  b_Machine_eq : Binds K fd_Machine_eq ["self", "other"] []
  m_Machine_eq : Meth K a_Machine "__eq__" f_Machine_eq
  f_dead_state : Addr
  fd_dead_state : FuncData
  F_dead_state : Fun K "dead_state" "dead_state" s_dead_state f_dead_state fd_dead_state
  b_dead_state : Binds K fd_dead_state ["machine"] []
  g_dead_state : mg "dead_state" = some (.ref f_dead_state)
  f_sized : Addr
  fd_sized : FuncData
  F_sized : Fun K "sized" "sized" s_sized f_sized fd_sized
  b_sized : Binds K fd_sized ["kind", "parts", "most"] []
  g_sized : mg "sized" = some (.ref f_sized)
  f_in_front : Addr
  fd_in_front : FuncData
  F_in_front : Fun K "in_front" "in_front" s_in_front f_in_front fd_in_front
  b_in_front : Binds K fd_in_front ["first", "part", "most"] []
  g_in_front : mg "in_front" = some (.ref f_in_front)
  f_added : Addr
  fd_added : FuncData
  F_added : Fun K "added" "added" s_added f_added fd_added
  b_added : Binds K fd_added ["known", "key", "part", "most"] []
  g_added : mg "added" = some (.ref f_added)
  f_equation : Addr
  fd_equation : FuncData
  F_equation : Fun K "equation" "equation" s_equation f_equation fd_equation
  b_equation : Binds K fd_equation ["machine", "state", "dead"] []
  g_equation : mg "equation" = some (.ref f_equation)
  f_solved : Addr
  fd_solved : FuncData
  F_solved : Fun K "solved" "solved" s_solved f_solved fd_solved
  b_solved : Binds K fd_solved ["terms", "state", "most"] []
  g_solved : mg "solved" = some (.ref f_solved)
  f_pattern_of : Addr
  fd_pattern_of : FuncData
  F_pattern_of : Fun K "pattern_of" "pattern_of" s_pattern_of f_pattern_of fd_pattern_of
  ds_pattern_of : List Value
  dv_pattern_of : Vals [V.int 60] ds_pattern_of
  b_pattern_of : Binds K fd_pattern_of ["machine", "most"] ds_pattern_of
  bk_pattern_of : KBn K fd_pattern_of ["machine", "most"] 1 ["most"] (fun us ws => us ++ ws) (fun vs zs => vs ++ zs)
  g_pattern_of : mg "pattern_of" = some (.ref f_pattern_of)
  f__law_mix : Addr
  fd__law_mix : FuncData
  F__law_mix : Fun K "_law_mix" "_law_mix" s__law_mix f__law_mix fd__law_mix
  b__law_mix : Binds K fd__law_mix ["cell", "k"] []
  g__law_mix : mg "_law_mix" = some (.ref f__law_mix)
  f__law_stream : Addr
  fd__law_stream : FuncData
  F__law_stream : Fun K "_law_stream" "_law_stream" s__law_stream f__law_stream fd__law_stream
  b__law_stream : Binds K fd__law_stream ["script", "many"] []
  g__law_stream : mg "_law_stream" = some (.ref f__law_stream)
  f__law_pick : Addr
  fd__law_pick : FuncData
  F__law_pick : Fun K "_law_pick" "_law_pick" s__law_pick f__law_pick fd__law_pick
  b__law_pick : Binds K fd__law_pick ["numbers", "at", "many"] []
  g__law_pick : mg "_law_pick" = some (.ref f__law_pick)
  f__law_kind : Addr
  fd__law_kind : FuncData
  F__law_kind : Fun K "_law_kind" "_law_kind" s__law_kind f__law_kind fd__law_kind
  b__law_kind : Binds K fd__law_kind ["value"] []
  g__law_kind : mg "_law_kind" = some (.ref f__law_kind)
  f__law_same : Addr
  fd__law_same : FuncData
  F__law_same : Fun K "_law_same" "_law_same" s__law_same f__law_same fd__law_same
  b__law_same : Binds K fd__law_same ["answer", "due"] []
  g__law_same : mg "_law_same" = some (.ref f__law_same)
  f__law_apart : Addr
  fd__law_apart : FuncData
  F__law_apart : Fun K "_law_apart" "_law_apart" s__law_apart f__law_apart fd__law_apart
  b__law_apart : Binds K fd__law_apart ["rows", "finals"] []
  g__law_apart : mg "_law_apart" = some (.ref f__law_apart)
  f__law_least : Addr
  fd__law_least : FuncData
  F__law_least : Fun K "_law_least" "_law_least" s__law_least f__law_least fd__law_least
  b__law_least : Binds K fd__law_least ["rows", "finals"] []
  g__law_least : mg "_law_least" = some (.ref f__law_least)
  f__law_drawn : Addr
  fd__law_drawn : FuncData
  F__law_drawn : Fun K "_law_drawn" "_law_drawn" s__law_drawn f__law_drawn fd__law_drawn
  b__law_drawn : Binds K fd__law_drawn ["numbers", "first"] []
  g__law_drawn : mg "_law_drawn" = some (.ref f__law_drawn)
  f__law_ladder : Addr
  fd__law_ladder : FuncData
  F__law_ladder : Fun K "_law_ladder" "_law_ladder" s__law_ladder f__law_ladder fd__law_ladder
  b__law_ladder : Binds K fd__law_ladder ["numbers", "first"] []
  g__law_ladder : mg "_law_ladder" = some (.ref f__law_ladder)
  f__law_live : Addr
  fd__law_live : FuncData
  F__law_live : Fun K "_law_live" "_law_live" s__law_live f__law_live fd__law_live
  b__law_live : Binds K fd__law_live ["rows", "finals"] []
  g__law_live : mg "_law_live" = some (.ref f__law_live)
  f__law_equation : Addr
  fd__law_equation : FuncData
  F__law_equation : Fun K "_law_equation" "_law_equation" s__law_equation f__law_equation fd__law_equation
  b__law_equation : Binds K fd__law_equation ["rows", "finals", "live", "state"] []
  g__law_equation : mg "_law_equation" = some (.ref f__law_equation)
  f__law_before : Addr
  fd__law_before : FuncData
  F__law_before : Fun K "_law_before" "_law_before" s__law_before f__law_before fd__law_before
  b__law_before : Binds K fd__law_before ["one", "two"] []
  g__law_before : mg "_law_before" = some (.ref f__law_before)
  f__law_added : Addr
  fd__law_added : FuncData
  F__law_added : Fun K "_law_added" "_law_added" s__law_added f__law_added fd__law_added
  b__law_added : Binds K fd__law_added ["one", "two"] []
  g__law_added : mg "_law_added" = some (.ref f__law_added)
  f__law_solved : Addr
  fd__law_solved : FuncData
  F__law_solved : Fun K "_law_solved" "_law_solved" s__law_solved f__law_solved fd__law_solved
  b__law_solved : Binds K fd__law_solved ["rows", "finals"] []
  g__law_solved : mg "_law_solved" = some (.ref f__law_solved)
  f__law_tried : Addr
  fd__law_tried : FuncData
  F__law_tried : Fun K "_law_tried" "_law_tried" s__law_tried f__law_tried fd__law_tried
  b__law_tried : Binds K fd__law_tried ["machine", "wide"] []
  g__law_tried : mg "_law_tried" = some (.ref f__law_tried)
  f__law_told : Addr
  fd__law_told : FuncData
  F__law_told : Fun K "_law_told" "_law_told" s__law_told f__law_told fd__law_told
  b__law_told : Binds K fd__law_told ["automaton"] []
  g__law_told : mg "_law_told" = some (.ref f__law_told)
  f_law : Addr
  fd_law : FuncData
  F_law : Fun K "law" "law" s_law f_law fd_law
  b_law : Binds K fd_law ["script"] []
  g_law : mg "law" = some (.ref f_law)
  bt_law : ∀ (s : Shared) (v : Value), BindsTo s fd_law ⟨[v], []⟩ [("script", v)]
  z_abs : mg "abs" = none
  z_bool : mg "bool" = none
  z_int : mg "int" = none
  z_isinstance : mg "isinstance" = none
  z_len : mg "len" = none
  z_list : mg "list" = none
  z_min : mg "min" = none
  z_range : mg "range" = none
  z_sorted : mg "sorted" = none
  z_str : mg "str" = none
  z_sum : mg "sum" = none
  z_tuple : mg "tuple" = none
  z_zip : mg "zip" = none
  tk_MOST_STATES : Tok
  g_MOST_STATES : mg "MOST_STATES" = some (.int 100 tk_MOST_STATES)
  tk_SIGNS : Tok
  g_SIGNS : mg "SIGNS" = some (.str (Str.ofString ":;abc") tk_SIGNS)
  a_PLACES : Addr
  g_PLACES : mg "PLACES" = some (.ref a_PLACES)
  kd_PLACES : Gx.KIv K w a_PLACES [(":", 0), (";", 1), ("a", 2), ("b", 3), ("c", 4)]
  a_EMPTY : Addr
  b_EMPTY : Addr
  g_EMPTY : mg "EMPTY" = some (.ref a_EMPTY)
  kt_EMPTY : Gx.KTs K b_EMPTY (["word", ""] : List Str)
  kp_EMPTY : ∀ H : Hp, SqT K H a_EMPTY [.ref b_EMPTY, .int 1]
  em_tm : PySem.W.exmOne K (.ref a_TooMany) (.ref a_TooMany) = some true
theorem txt_mk {K : PySem.W.Frag} {h : Heap} {mg : Str → Option Value} {w : World} (X : K.In h) (G : h.Ns mainGlobals mg) {a_LensError a_TooMany a_Machine f_TooMany_init f_reached f_refined f_classes f_least f_Machine_init f_Machine_states p_Machine_states f_Machine_state_after f_Machine_contains f_Machine_eq f_dead_state f_sized f_in_front f_added f_equation f_solved f_pattern_of f__law_mix f__law_stream f__law_pick f__law_kind f__law_same f__law_apart f__law_least f__law_drawn f__law_ladder f__law_live f__law_equation f__law_before f__law_added f__law_solved f__law_tried f__law_told f_law a_PLACES a_EMPTY b_EMPTY : Addr}
    {nm_TooMany q_TooMany : Str} {N_TooMany : Addr} {bs_TooMany bm_TooMany sub_TooMany : List Value} {sn_TooMany : List Str} {ab_TooMany : Bool} {col_TooMany : Option Bool} {dd_TooMany : Option Addr} {m0_TooMany m1_TooMany m2_TooMany m3_TooMany m5_TooMany : Option Value} {oc_TooMany_init kV_TooMany_init dc_TooMany_init pm_TooMany_init cd_TooMany_init ct_TooMany_init : Value} {od_TooMany_init an_TooMany_init : Option Addr} {sl_TooMany_init : Array (Option Value)} {oc_reached kV_reached dc_reached pm_reached cd_reached ct_reached : Value} {od_reached an_reached : Option Addr} {sl_reached : Array (Option Value)} {oc_refined kV_refined dc_refined pm_refined cd_refined ct_refined : Value} {od_refined an_refined : Option Addr} {sl_refined : Array (Option Value)} {oc_classes kV_classes dc_classes pm_classes cd_classes ct_classes : Value} {od_classes an_classes : Option Addr} {sl_classes : Array (Option Value)} {oc_least kV_least dc_least pm_least cd_least ct_least : Value} {od_least an_least : Option Addr} {sl_least : Array (Option Value)} {oc_Machine_init kV_Machine_init dc_Machine_init pm_Machine_init cd_Machine_init ct_Machine_init : Value} {od_Machine_init an_Machine_init : Option Addr} {sl_Machine_init : Array (Option Value)} {pe_Machine_states : List Value} {oc_Machine_states kV_Machine_states dc_Machine_states pm_Machine_states cd_Machine_states ct_Machine_states : Value} {od_Machine_states an_Machine_states : Option Addr} {sl_Machine_states : Array (Option Value)} {oc_Machine_state_after kV_Machine_state_after dc_Machine_state_after pm_Machine_state_after cd_Machine_state_after ct_Machine_state_after : Value} {od_Machine_state_after an_Machine_state_after : Option Addr} {sl_Machine_state_after : Array (Option Value)} {oc_Machine_contains kV_Machine_contains dc_Machine_contains pm_Machine_contains cd_Machine_contains ct_Machine_contains : Value} {od_Machine_contains an_Machine_contains : Option Addr} {sl_Machine_contains : Array (Option Value)} {oc_Machine_eq kV_Machine_eq dc_Machine_eq pm_Machine_eq cd_Machine_eq ct_Machine_eq : Value} {od_Machine_eq an_Machine_eq : Option Addr} {sl_Machine_eq : Array (Option Value)} {oc_dead_state kV_dead_state dc_dead_state pm_dead_state cd_dead_state ct_dead_state : Value} {od_dead_state an_dead_state : Option Addr} {sl_dead_state : Array (Option Value)} {oc_sized kV_sized dc_sized pm_sized cd_sized ct_sized : Value} {od_sized an_sized : Option Addr} {sl_sized : Array (Option Value)} {oc_in_front kV_in_front dc_in_front pm_in_front cd_in_front ct_in_front : Value} {od_in_front an_in_front : Option Addr} {sl_in_front : Array (Option Value)} {oc_added kV_added dc_added pm_added cd_added ct_added : Value} {od_added an_added : Option Addr} {sl_added : Array (Option Value)} {oc_equation kV_equation dc_equation pm_equation cd_equation ct_equation : Value} {od_equation an_equation : Option Addr} {sl_equation : Array (Option Value)} {oc_solved kV_solved dc_solved pm_solved cd_solved ct_solved : Value} {od_solved an_solved : Option Addr} {sl_solved : Array (Option Value)} {kD_pattern_of : Addr} {kt_pattern_of_most : Tok} {oc_pattern_of dc_pattern_of pm_pattern_of cd_pattern_of ct_pattern_of : Value} {od_pattern_of an_pattern_of : Option Addr} {sl_pattern_of : Array (Option Value)} {oc__law_mix kV__law_mix dc__law_mix pm__law_mix cd__law_mix ct__law_mix : Value} {od__law_mix an__law_mix : Option Addr} {sl__law_mix : Array (Option Value)} {oc__law_stream kV__law_stream dc__law_stream pm__law_stream cd__law_stream ct__law_stream : Value} {od__law_stream an__law_stream : Option Addr} {sl__law_stream : Array (Option Value)} {oc__law_pick kV__law_pick dc__law_pick pm__law_pick cd__law_pick ct__law_pick : Value} {od__law_pick an__law_pick : Option Addr} {sl__law_pick : Array (Option Value)} {oc__law_kind kV__law_kind dc__law_kind pm__law_kind cd__law_kind ct__law_kind : Value} {od__law_kind an__law_kind : Option Addr} {sl__law_kind : Array (Option Value)} {oc__law_same kV__law_same dc__law_same pm__law_same cd__law_same ct__law_same : Value} {od__law_same an__law_same : Option Addr} {sl__law_same : Array (Option Value)} {oc__law_apart kV__law_apart dc__law_apart pm__law_apart cd__law_apart ct__law_apart : Value} {od__law_apart an__law_apart : Option Addr} {sl__law_apart : Array (Option Value)} {oc__law_least kV__law_least dc__law_least pm__law_least cd__law_least ct__law_least : Value} {od__law_least an__law_least : Option Addr} {sl__law_least : Array (Option Value)} {oc__law_drawn kV__law_drawn dc__law_drawn pm__law_drawn cd__law_drawn ct__law_drawn : Value} {od__law_drawn an__law_drawn : Option Addr} {sl__law_drawn : Array (Option Value)} {oc__law_ladder kV__law_ladder dc__law_ladder pm__law_ladder cd__law_ladder ct__law_ladder : Value} {od__law_ladder an__law_ladder : Option Addr} {sl__law_ladder : Array (Option Value)} {oc__law_live kV__law_live dc__law_live pm__law_live cd__law_live ct__law_live : Value} {od__law_live an__law_live : Option Addr} {sl__law_live : Array (Option Value)} {oc__law_equation kV__law_equation dc__law_equation pm__law_equation cd__law_equation ct__law_equation : Value} {od__law_equation an__law_equation : Option Addr} {sl__law_equation : Array (Option Value)} {oc__law_before kV__law_before dc__law_before pm__law_before cd__law_before ct__law_before : Value} {od__law_before an__law_before : Option Addr} {sl__law_before : Array (Option Value)} {oc__law_added kV__law_added dc__law_added pm__law_added cd__law_added ct__law_added : Value} {od__law_added an__law_added : Option Addr} {sl__law_added : Array (Option Value)} {oc__law_solved kV__law_solved dc__law_solved pm__law_solved cd__law_solved ct__law_solved : Value} {od__law_solved an__law_solved : Option Addr} {sl__law_solved : Array (Option Value)} {oc__law_tried kV__law_tried dc__law_tried pm__law_tried cd__law_tried ct__law_tried : Value} {od__law_tried an__law_tried : Option Addr} {sl__law_tried : Array (Option Value)} {oc__law_told kV__law_told dc__law_told pm__law_told cd__law_told ct__law_told : Value} {od__law_told an__law_told : Option Addr} {sl__law_told : Array (Option Value)} {oc_law kV_law dc_law pm_law cd_law ct_law : Value} {od_law an_law : Option Addr} {sl_law : Array (Option Value)} {tkx_MOST_STATES : Tok} {tkx_SIGNS : Tok}
    (ga_LensError : PySem.W.nsIn K mainGlobals "LensError" = some (some (.ref a_LensError)))
    (k_LensError : PySem.W.keepIn K (.ref a_LensError) = true)
    (x_LensError : PySem.W.excIn K a_LensError [.type "ValueError", .type "Exception", .type "BaseException", .type "object"] "ValueError.__new__" = true)
    (bP_LensError : PySem.W.subIn K (.ref a_LensError) (.type "BaseException") = some true)
    (tP_LensError : PySem.W.typeIn K (.ref a_LensError) = some (.type "type"))
    (iP_LensError : PySem.W.isClsIn K a_LensError = true)
    (ga_TooMany : PySem.W.nsIn K mainGlobals "TooMany" = some (some (.ref a_TooMany)))
    (k_TooMany : PySem.W.keepIn K (.ref a_TooMany) = true)
    (oc_TooMany : K.lookup a_TooMany = some (excClassObj nm_TooMany q_TooMany a_TooMany N_TooMany bs_TooMany bm_TooMany true sn_TooMany sub_TooMany ab_TooMany col_TooMany dd_TooMany m0_TooMany m1_TooMany m2_TooMany m3_TooMany m5_TooMany "ValueError.__new__"))
    (orf_TooMany : PySem.HandSPX.refsVE bm_TooMany = true)
    (osa_TooMany : PySem.W.findIn K (.ref a_TooMany) "__setattr__" = some (some (.builtin "object.__setattr__")))
    (oxc_TooMany : PySem.W.subIn K (.ref a_TooMany) (.type "BaseException") = some true)
    (otc_TooMany : PySem.W.typeIn K (.ref a_TooMany) = some (.type "type"))
    (oga_TooMany : PySem.W.findIn K (.ref a_TooMany) "__getattribute__" = some (some (.builtin "BaseException.__getattribute__")))
    (ogg_TooMany : PySem.W.findIn K (.ref a_TooMany) "__getattr__" = some none)
    (ohd_TooMany : PySem.W.hasDictIn K a_TooMany = true)
    (ocl_TooMany : PySem.W.findIn K (.ref a_TooMany) "__class__" = some (some (.builtin "object.__class__")))
    (omr_TooMany : PySem.W.mroIn K a_TooMany (.type "object") = some true)
    (on_TooMany : PySem.W.findIn K (.ref a_TooMany) "limit" = some none)
    (ga_Machine : PySem.W.nsIn K mainGlobals "Machine" = some (some (.ref a_Machine)))
    (k_Machine : PySem.W.keepIn K (.ref a_Machine) = true)
    (pg_Machine : PySem.W.plainGet K a_Machine Str.empty = true)
    (hd_Machine : PySem.W.hasDictIn K a_Machine = true)
    (po_Machine : PySem.W.plainOver K a_Machine = true)
    (sa_Machine : PySem.W.findIn K (.ref a_Machine) "__setattr__" = some (some (.builtin "object.__setattr__")))
    (mk_Machine : PySem.W.makesIn K a_Machine = true)
    (n_Machine_rows : PySem.W.findIn K (.ref a_Machine) "rows" = some none)
    (n_Machine_finals : PySem.W.findIn K (.ref a_Machine) "finals" = some none)
    (ha_Machine : PySem.W.findIn K (.ref a_Machine) "__class__" = some (some (.builtin "object.__class__")))
    (hm_Machine : PySem.W.mroIn K a_Machine (.type "object") = some true)
    (hn_ : PySem.W.specialIn K (.builtin "object.__class__") "__get__" = some (some (.builtin "getset_descriptor.__get__")))
    (htk_ : PySem.W.takesIn K (.builtin "object.__class__") = some true)
    (ga_TooMany_init : PySem.W.findIn K (.ref a_TooMany) "__init__" = some (some (.ref f_TooMany_init)))
    (ot_TooMany : PySem.W.typeIn K (.ref f_TooMany_init) = some (.type "function"))
    (l_TooMany_init : K.lookup f_TooMany_init = some ⟨oc_TooMany_init, od_TooMany_init, .func (PySem.W.fnOf "__init__" "TooMany.__init__" (defArgs s_TooMany_init) (defBody s_TooMany_init) (defScope s_TooMany_init) .none kV_TooMany_init dc_TooMany_init pm_TooMany_init an_TooMany_init cd_TooMany_init ct_TooMany_init), sl_TooMany_init⟩)
    (cc_TooMany_init : PySem.W.codeIn K cd_TooMany_init "TooMany.__init__" = true)
    (k_TooMany_init : PySem.W.keepIn K (.ref f_TooMany_init) = true)
    (ga_reached : PySem.W.nsIn K mainGlobals "reached" = some (some (.ref f_reached)))
    (l_reached : K.lookup f_reached = some ⟨oc_reached, od_reached, .func (PySem.W.fnOf "reached" "reached" (defArgs s_reached) (defBody s_reached) (defScope s_reached) .none kV_reached dc_reached pm_reached an_reached cd_reached ct_reached), sl_reached⟩)
    (cc_reached : PySem.W.codeIn K cd_reached "reached" = true)
    (k_reached : PySem.W.keepIn K (.ref f_reached) = true)
    (ga_refined : PySem.W.nsIn K mainGlobals "refined" = some (some (.ref f_refined)))
    (l_refined : K.lookup f_refined = some ⟨oc_refined, od_refined, .func (PySem.W.fnOf "refined" "refined" (defArgs s_refined) (defBody s_refined) (defScope s_refined) .none kV_refined dc_refined pm_refined an_refined cd_refined ct_refined), sl_refined⟩)
    (cc_refined : PySem.W.codeIn K cd_refined "refined" = true)
    (k_refined : PySem.W.keepIn K (.ref f_refined) = true)
    (ga_classes : PySem.W.nsIn K mainGlobals "classes" = some (some (.ref f_classes)))
    (l_classes : K.lookup f_classes = some ⟨oc_classes, od_classes, .func (PySem.W.fnOf "classes" "classes" (defArgs s_classes) (defBody s_classes) (defScope s_classes) .none kV_classes dc_classes pm_classes an_classes cd_classes ct_classes), sl_classes⟩)
    (cc_classes : PySem.W.codeIn K cd_classes "classes" = true)
    (k_classes : PySem.W.keepIn K (.ref f_classes) = true)
    (ga_least : PySem.W.nsIn K mainGlobals "least" = some (some (.ref f_least)))
    (l_least : K.lookup f_least = some ⟨oc_least, od_least, .func (PySem.W.fnOf "least" "least" (defArgs s_least) (defBody s_least) (defScope s_least) .none kV_least dc_least pm_least an_least cd_least ct_least), sl_least⟩)
    (cc_least : PySem.W.codeIn K cd_least "least" = true)
    (k_least : PySem.W.keepIn K (.ref f_least) = true)
    (ga_Machine_init : PySem.W.findIn K (.ref a_Machine) "__init__" = some (some (.ref f_Machine_init)))
    (i_Machine_init : PySem.W.isFn K (.ref f_Machine_init) = true)
    (l_Machine_init : K.lookup f_Machine_init = some ⟨oc_Machine_init, od_Machine_init, .func (PySem.W.fnOf "__init__" "Machine.__init__" (defArgs s_Machine_init) (defBody s_Machine_init) (defScope s_Machine_init) .none kV_Machine_init dc_Machine_init pm_Machine_init an_Machine_init cd_Machine_init ct_Machine_init), sl_Machine_init⟩)
    (cc_Machine_init : PySem.W.codeIn K cd_Machine_init "Machine.__init__" = true)
    (k_Machine_init : PySem.W.keepIn K (.ref f_Machine_init) = true)
    (pa_Machine_states : PySem.W.findIn K (.ref a_Machine) "states" = some (some (.ref p_Machine_states)))
    (pb_Machine_states : PySem.W.specialIn K (.ref p_Machine_states) "__get__" = some (some (.builtin "property.__get__")))
    (pc_Machine_states : PySem.W.takesIn K (.ref p_Machine_states) = some true)
    (pd_Machine_states : PySem.W.recIn K p_Machine_states "property" = some (.ref f_Machine_states :: pe_Machine_states))
    (l_Machine_states : K.lookup f_Machine_states = some ⟨oc_Machine_states, od_Machine_states, .func (PySem.W.fnOf "states" "Machine.states" (defArgs s_Machine_states) (defBody s_Machine_states) (defScope s_Machine_states) .none kV_Machine_states dc_Machine_states pm_Machine_states an_Machine_states cd_Machine_states ct_Machine_states), sl_Machine_states⟩)
    (cc_Machine_states : PySem.W.codeIn K cd_Machine_states "Machine.states" = true)
    (k_Machine_states : PySem.W.keepIn K (.ref f_Machine_states) = true)
    (ga_Machine_state_after : PySem.W.findIn K (.ref a_Machine) "state_after" = some (some (.ref f_Machine_state_after)))
    (i_Machine_state_after : PySem.W.isFn K (.ref f_Machine_state_after) = true)
    (l_Machine_state_after : K.lookup f_Machine_state_after = some ⟨oc_Machine_state_after, od_Machine_state_after, .func (PySem.W.fnOf "state_after" "Machine.state_after" (defArgs s_Machine_state_after) (defBody s_Machine_state_after) (defScope s_Machine_state_after) .none kV_Machine_state_after dc_Machine_state_after pm_Machine_state_after an_Machine_state_after cd_Machine_state_after ct_Machine_state_after), sl_Machine_state_after⟩)
    (cc_Machine_state_after : PySem.W.codeIn K cd_Machine_state_after "Machine.state_after" = true)
    (k_Machine_state_after : PySem.W.keepIn K (.ref f_Machine_state_after) = true)
    (ga_Machine_contains : PySem.W.findIn K (.ref a_Machine) "__contains__" = some (some (.ref f_Machine_contains)))
    (i_Machine_contains : PySem.W.isFn K (.ref f_Machine_contains) = true)
    (l_Machine_contains : K.lookup f_Machine_contains = some ⟨oc_Machine_contains, od_Machine_contains, .func (PySem.W.fnOf "__contains__" "Machine.__contains__" (defArgs s_Machine_contains) (defBody s_Machine_contains) (defScope s_Machine_contains) .none kV_Machine_contains dc_Machine_contains pm_Machine_contains an_Machine_contains cd_Machine_contains ct_Machine_contains), sl_Machine_contains⟩)
    (cc_Machine_contains : PySem.W.codeIn K cd_Machine_contains "Machine.__contains__" = true)
    (k_Machine_contains : PySem.W.keepIn K (.ref f_Machine_contains) = true)
    (ga_Machine_eq : PySem.W.findIn K (.ref a_Machine) "__eq__" = some (some (.ref f_Machine_eq)))
    (i_Machine_eq : PySem.W.isFn K (.ref f_Machine_eq) = true)
    (l_Machine_eq : K.lookup f_Machine_eq = some ⟨oc_Machine_eq, od_Machine_eq, .func (PySem.W.fnOf "__eq__" "Machine.__eq__" (defArgs s_Machine_eq) (defBody s_Machine_eq) (defScope s_Machine_eq) .none kV_Machine_eq dc_Machine_eq pm_Machine_eq an_Machine_eq cd_Machine_eq ct_Machine_eq), sl_Machine_eq⟩)
    (cc_Machine_eq : PySem.W.codeIn K cd_Machine_eq "Machine.__eq__" = true)
    (k_Machine_eq : PySem.W.keepIn K (.ref f_Machine_eq) = true)
    (ga_dead_state : PySem.W.nsIn K mainGlobals "dead_state" = some (some (.ref f_dead_state)))
    (l_dead_state : K.lookup f_dead_state = some ⟨oc_dead_state, od_dead_state, .func (PySem.W.fnOf "dead_state" "dead_state" (defArgs s_dead_state) (defBody s_dead_state) (defScope s_dead_state) .none kV_dead_state dc_dead_state pm_dead_state an_dead_state cd_dead_state ct_dead_state), sl_dead_state⟩)
    (cc_dead_state : PySem.W.codeIn K cd_dead_state "dead_state" = true)
    (k_dead_state : PySem.W.keepIn K (.ref f_dead_state) = true)
    (ga_sized : PySem.W.nsIn K mainGlobals "sized" = some (some (.ref f_sized)))
    (l_sized : K.lookup f_sized = some ⟨oc_sized, od_sized, .func (PySem.W.fnOf "sized" "sized" (defArgs s_sized) (defBody s_sized) (defScope s_sized) .none kV_sized dc_sized pm_sized an_sized cd_sized ct_sized), sl_sized⟩)
    (cc_sized : PySem.W.codeIn K cd_sized "sized" = true)
    (k_sized : PySem.W.keepIn K (.ref f_sized) = true)
    (ga_in_front : PySem.W.nsIn K mainGlobals "in_front" = some (some (.ref f_in_front)))
    (l_in_front : K.lookup f_in_front = some ⟨oc_in_front, od_in_front, .func (PySem.W.fnOf "in_front" "in_front" (defArgs s_in_front) (defBody s_in_front) (defScope s_in_front) .none kV_in_front dc_in_front pm_in_front an_in_front cd_in_front ct_in_front), sl_in_front⟩)
    (cc_in_front : PySem.W.codeIn K cd_in_front "in_front" = true)
    (k_in_front : PySem.W.keepIn K (.ref f_in_front) = true)
    (ga_added : PySem.W.nsIn K mainGlobals "added" = some (some (.ref f_added)))
    (l_added : K.lookup f_added = some ⟨oc_added, od_added, .func (PySem.W.fnOf "added" "added" (defArgs s_added) (defBody s_added) (defScope s_added) .none kV_added dc_added pm_added an_added cd_added ct_added), sl_added⟩)
    (cc_added : PySem.W.codeIn K cd_added "added" = true)
    (k_added : PySem.W.keepIn K (.ref f_added) = true)
    (ga_equation : PySem.W.nsIn K mainGlobals "equation" = some (some (.ref f_equation)))
    (l_equation : K.lookup f_equation = some ⟨oc_equation, od_equation, .func (PySem.W.fnOf "equation" "equation" (defArgs s_equation) (defBody s_equation) (defScope s_equation) .none kV_equation dc_equation pm_equation an_equation cd_equation ct_equation), sl_equation⟩)
    (cc_equation : PySem.W.codeIn K cd_equation "equation" = true)
    (k_equation : PySem.W.keepIn K (.ref f_equation) = true)
    (ga_solved : PySem.W.nsIn K mainGlobals "solved" = some (some (.ref f_solved)))
    (l_solved : K.lookup f_solved = some ⟨oc_solved, od_solved, .func (PySem.W.fnOf "solved" "solved" (defArgs s_solved) (defBody s_solved) (defScope s_solved) .none kV_solved dc_solved pm_solved an_solved cd_solved ct_solved), sl_solved⟩)
    (cc_solved : PySem.W.codeIn K cd_solved "solved" = true)
    (k_solved : PySem.W.keepIn K (.ref f_solved) = true)
    (ga_pattern_of : PySem.W.nsIn K mainGlobals "pattern_of" = some (some (.ref f_pattern_of)))
    (l_pattern_of : K.lookup f_pattern_of = some ⟨oc_pattern_of, od_pattern_of, .func (PySem.W.fnOf "pattern_of" "pattern_of" (defArgs s_pattern_of) (defBody s_pattern_of) (defScope s_pattern_of) .none (.ref kD_pattern_of) dc_pattern_of pm_pattern_of an_pattern_of cd_pattern_of ct_pattern_of), sl_pattern_of⟩)
    (cc_pattern_of : PySem.W.codeIn K cd_pattern_of "pattern_of" = true)
    (k_pattern_of : PySem.W.keepIn K (.ref f_pattern_of) = true)
    (kd_pattern_of_most : PySem.W.nsIn K kD_pattern_of "most" = some (some (.int 60 kt_pattern_of_most)))
    (ga__law_mix : PySem.W.nsIn K mainGlobals "_law_mix" = some (some (.ref f__law_mix)))
    (l__law_mix : K.lookup f__law_mix = some ⟨oc__law_mix, od__law_mix, .func (PySem.W.fnOf "_law_mix" "_law_mix" (defArgs s__law_mix) (defBody s__law_mix) (defScope s__law_mix) .none kV__law_mix dc__law_mix pm__law_mix an__law_mix cd__law_mix ct__law_mix), sl__law_mix⟩)
    (cc__law_mix : PySem.W.codeIn K cd__law_mix "_law_mix" = true)
    (k__law_mix : PySem.W.keepIn K (.ref f__law_mix) = true)
    (ga__law_stream : PySem.W.nsIn K mainGlobals "_law_stream" = some (some (.ref f__law_stream)))
    (l__law_stream : K.lookup f__law_stream = some ⟨oc__law_stream, od__law_stream, .func (PySem.W.fnOf "_law_stream" "_law_stream" (defArgs s__law_stream) (defBody s__law_stream) (defScope s__law_stream) .none kV__law_stream dc__law_stream pm__law_stream an__law_stream cd__law_stream ct__law_stream), sl__law_stream⟩)
    (cc__law_stream : PySem.W.codeIn K cd__law_stream "_law_stream" = true)
    (k__law_stream : PySem.W.keepIn K (.ref f__law_stream) = true)
    (ga__law_pick : PySem.W.nsIn K mainGlobals "_law_pick" = some (some (.ref f__law_pick)))
    (l__law_pick : K.lookup f__law_pick = some ⟨oc__law_pick, od__law_pick, .func (PySem.W.fnOf "_law_pick" "_law_pick" (defArgs s__law_pick) (defBody s__law_pick) (defScope s__law_pick) .none kV__law_pick dc__law_pick pm__law_pick an__law_pick cd__law_pick ct__law_pick), sl__law_pick⟩)
    (cc__law_pick : PySem.W.codeIn K cd__law_pick "_law_pick" = true)
    (k__law_pick : PySem.W.keepIn K (.ref f__law_pick) = true)
    (ga__law_kind : PySem.W.nsIn K mainGlobals "_law_kind" = some (some (.ref f__law_kind)))
    (l__law_kind : K.lookup f__law_kind = some ⟨oc__law_kind, od__law_kind, .func (PySem.W.fnOf "_law_kind" "_law_kind" (defArgs s__law_kind) (defBody s__law_kind) (defScope s__law_kind) .none kV__law_kind dc__law_kind pm__law_kind an__law_kind cd__law_kind ct__law_kind), sl__law_kind⟩)
    (cc__law_kind : PySem.W.codeIn K cd__law_kind "_law_kind" = true)
    (k__law_kind : PySem.W.keepIn K (.ref f__law_kind) = true)
    (ga__law_same : PySem.W.nsIn K mainGlobals "_law_same" = some (some (.ref f__law_same)))
    (l__law_same : K.lookup f__law_same = some ⟨oc__law_same, od__law_same, .func (PySem.W.fnOf "_law_same" "_law_same" (defArgs s__law_same) (defBody s__law_same) (defScope s__law_same) .none kV__law_same dc__law_same pm__law_same an__law_same cd__law_same ct__law_same), sl__law_same⟩)
    (cc__law_same : PySem.W.codeIn K cd__law_same "_law_same" = true)
    (k__law_same : PySem.W.keepIn K (.ref f__law_same) = true)
    (ga__law_apart : PySem.W.nsIn K mainGlobals "_law_apart" = some (some (.ref f__law_apart)))
    (l__law_apart : K.lookup f__law_apart = some ⟨oc__law_apart, od__law_apart, .func (PySem.W.fnOf "_law_apart" "_law_apart" (defArgs s__law_apart) (defBody s__law_apart) (defScope s__law_apart) .none kV__law_apart dc__law_apart pm__law_apart an__law_apart cd__law_apart ct__law_apart), sl__law_apart⟩)
    (cc__law_apart : PySem.W.codeIn K cd__law_apart "_law_apart" = true)
    (k__law_apart : PySem.W.keepIn K (.ref f__law_apart) = true)
    (ga__law_least : PySem.W.nsIn K mainGlobals "_law_least" = some (some (.ref f__law_least)))
    (l__law_least : K.lookup f__law_least = some ⟨oc__law_least, od__law_least, .func (PySem.W.fnOf "_law_least" "_law_least" (defArgs s__law_least) (defBody s__law_least) (defScope s__law_least) .none kV__law_least dc__law_least pm__law_least an__law_least cd__law_least ct__law_least), sl__law_least⟩)
    (cc__law_least : PySem.W.codeIn K cd__law_least "_law_least" = true)
    (k__law_least : PySem.W.keepIn K (.ref f__law_least) = true)
    (ga__law_drawn : PySem.W.nsIn K mainGlobals "_law_drawn" = some (some (.ref f__law_drawn)))
    (l__law_drawn : K.lookup f__law_drawn = some ⟨oc__law_drawn, od__law_drawn, .func (PySem.W.fnOf "_law_drawn" "_law_drawn" (defArgs s__law_drawn) (defBody s__law_drawn) (defScope s__law_drawn) .none kV__law_drawn dc__law_drawn pm__law_drawn an__law_drawn cd__law_drawn ct__law_drawn), sl__law_drawn⟩)
    (cc__law_drawn : PySem.W.codeIn K cd__law_drawn "_law_drawn" = true)
    (k__law_drawn : PySem.W.keepIn K (.ref f__law_drawn) = true)
    (ga__law_ladder : PySem.W.nsIn K mainGlobals "_law_ladder" = some (some (.ref f__law_ladder)))
    (l__law_ladder : K.lookup f__law_ladder = some ⟨oc__law_ladder, od__law_ladder, .func (PySem.W.fnOf "_law_ladder" "_law_ladder" (defArgs s__law_ladder) (defBody s__law_ladder) (defScope s__law_ladder) .none kV__law_ladder dc__law_ladder pm__law_ladder an__law_ladder cd__law_ladder ct__law_ladder), sl__law_ladder⟩)
    (cc__law_ladder : PySem.W.codeIn K cd__law_ladder "_law_ladder" = true)
    (k__law_ladder : PySem.W.keepIn K (.ref f__law_ladder) = true)
    (ga__law_live : PySem.W.nsIn K mainGlobals "_law_live" = some (some (.ref f__law_live)))
    (l__law_live : K.lookup f__law_live = some ⟨oc__law_live, od__law_live, .func (PySem.W.fnOf "_law_live" "_law_live" (defArgs s__law_live) (defBody s__law_live) (defScope s__law_live) .none kV__law_live dc__law_live pm__law_live an__law_live cd__law_live ct__law_live), sl__law_live⟩)
    (cc__law_live : PySem.W.codeIn K cd__law_live "_law_live" = true)
    (k__law_live : PySem.W.keepIn K (.ref f__law_live) = true)
    (ga__law_equation : PySem.W.nsIn K mainGlobals "_law_equation" = some (some (.ref f__law_equation)))
    (l__law_equation : K.lookup f__law_equation = some ⟨oc__law_equation, od__law_equation, .func (PySem.W.fnOf "_law_equation" "_law_equation" (defArgs s__law_equation) (defBody s__law_equation) (defScope s__law_equation) .none kV__law_equation dc__law_equation pm__law_equation an__law_equation cd__law_equation ct__law_equation), sl__law_equation⟩)
    (cc__law_equation : PySem.W.codeIn K cd__law_equation "_law_equation" = true)
    (k__law_equation : PySem.W.keepIn K (.ref f__law_equation) = true)
    (ga__law_before : PySem.W.nsIn K mainGlobals "_law_before" = some (some (.ref f__law_before)))
    (l__law_before : K.lookup f__law_before = some ⟨oc__law_before, od__law_before, .func (PySem.W.fnOf "_law_before" "_law_before" (defArgs s__law_before) (defBody s__law_before) (defScope s__law_before) .none kV__law_before dc__law_before pm__law_before an__law_before cd__law_before ct__law_before), sl__law_before⟩)
    (cc__law_before : PySem.W.codeIn K cd__law_before "_law_before" = true)
    (k__law_before : PySem.W.keepIn K (.ref f__law_before) = true)
    (ga__law_added : PySem.W.nsIn K mainGlobals "_law_added" = some (some (.ref f__law_added)))
    (l__law_added : K.lookup f__law_added = some ⟨oc__law_added, od__law_added, .func (PySem.W.fnOf "_law_added" "_law_added" (defArgs s__law_added) (defBody s__law_added) (defScope s__law_added) .none kV__law_added dc__law_added pm__law_added an__law_added cd__law_added ct__law_added), sl__law_added⟩)
    (cc__law_added : PySem.W.codeIn K cd__law_added "_law_added" = true)
    (k__law_added : PySem.W.keepIn K (.ref f__law_added) = true)
    (ga__law_solved : PySem.W.nsIn K mainGlobals "_law_solved" = some (some (.ref f__law_solved)))
    (l__law_solved : K.lookup f__law_solved = some ⟨oc__law_solved, od__law_solved, .func (PySem.W.fnOf "_law_solved" "_law_solved" (defArgs s__law_solved) (defBody s__law_solved) (defScope s__law_solved) .none kV__law_solved dc__law_solved pm__law_solved an__law_solved cd__law_solved ct__law_solved), sl__law_solved⟩)
    (cc__law_solved : PySem.W.codeIn K cd__law_solved "_law_solved" = true)
    (k__law_solved : PySem.W.keepIn K (.ref f__law_solved) = true)
    (ga__law_tried : PySem.W.nsIn K mainGlobals "_law_tried" = some (some (.ref f__law_tried)))
    (l__law_tried : K.lookup f__law_tried = some ⟨oc__law_tried, od__law_tried, .func (PySem.W.fnOf "_law_tried" "_law_tried" (defArgs s__law_tried) (defBody s__law_tried) (defScope s__law_tried) .none kV__law_tried dc__law_tried pm__law_tried an__law_tried cd__law_tried ct__law_tried), sl__law_tried⟩)
    (cc__law_tried : PySem.W.codeIn K cd__law_tried "_law_tried" = true)
    (k__law_tried : PySem.W.keepIn K (.ref f__law_tried) = true)
    (ga__law_told : PySem.W.nsIn K mainGlobals "_law_told" = some (some (.ref f__law_told)))
    (l__law_told : K.lookup f__law_told = some ⟨oc__law_told, od__law_told, .func (PySem.W.fnOf "_law_told" "_law_told" (defArgs s__law_told) (defBody s__law_told) (defScope s__law_told) .none kV__law_told dc__law_told pm__law_told an__law_told cd__law_told ct__law_told), sl__law_told⟩)
    (cc__law_told : PySem.W.codeIn K cd__law_told "_law_told" = true)
    (k__law_told : PySem.W.keepIn K (.ref f__law_told) = true)
    (ga_law : PySem.W.nsIn K mainGlobals "law" = some (some (.ref f_law)))
    (l_law : K.lookup f_law = some ⟨oc_law, od_law, .func (PySem.W.fnOf "law" "law" (defArgs s_law) (defBody s_law) (defScope s_law) .none kV_law dc_law pm_law an_law cd_law ct_law), sl_law⟩)
    (cc_law : PySem.W.codeIn K cd_law "law" = true)
    (k_law : PySem.W.keepIn K (.ref f_law) = true)
    (zz_abs : PySem.W.nsIn K mainGlobals "abs" = some none)
    (zz_bool : PySem.W.nsIn K mainGlobals "bool" = some none)
    (zz_int : PySem.W.nsIn K mainGlobals "int" = some none)
    (zz_isinstance : PySem.W.nsIn K mainGlobals "isinstance" = some none)
    (zz_len : PySem.W.nsIn K mainGlobals "len" = some none)
    (zz_list : PySem.W.nsIn K mainGlobals "list" = some none)
    (zz_min : PySem.W.nsIn K mainGlobals "min" = some none)
    (zz_range : PySem.W.nsIn K mainGlobals "range" = some none)
    (zz_sorted : PySem.W.nsIn K mainGlobals "sorted" = some none)
    (zz_str : PySem.W.nsIn K mainGlobals "str" = some none)
    (zz_sum : PySem.W.nsIn K mainGlobals "sum" = some none)
    (zz_tuple : PySem.W.nsIn K mainGlobals "tuple" = some none)
    (zz_zip : PySem.W.nsIn K mainGlobals "zip" = some none)
    (ga_MOST_STATES : PySem.W.nsIn K mainGlobals "MOST_STATES" = some (some (.int 100 tkx_MOST_STATES)))
    (ga_SIGNS : PySem.W.nsIn K mainGlobals "SIGNS" = some (some (.str (Str.ofString ":;abc") tkx_SIGNS)))
    (ga_PLACES : PySem.W.nsIn K mainGlobals "PLACES" = some (some (.ref a_PLACES)))
    (dw_PLACES : He.dicW K a_PLACES = some (He.keysIn w.params ([":", ";", "a", "b", "c"] : List Str)))
    (di_PLACES : Gx.intsW K a_PLACES = some ([(":", 0), (";", 1), ("a", 2), ("b", 3), ("c", 4)] : List (Str × Int)))
    (ga_EMPTY : PySem.W.nsIn K mainGlobals "EMPTY" = some (some (.ref a_EMPTY)))
    (kpt_EMPTY : PySem.W.typeIn K (.ref a_EMPTY) = some (.type "tuple"))
    (kpw_EMPTY : Gx.pairW K a_EMPTY = some (b_EMPTY, 1))
    (kty_EMPTY : PySem.W.typeIn K (.ref b_EMPTY) = some (.type "tuple"))
    (kts_EMPTY : Gx.tupW K b_EMPTY = some (["word", ""] : List Str))
    (em_tm : PySem.W.exmOne K (.ref a_TooMany) (.ref a_TooMany) = some true)
    {fa : Addr} (hfa : mg "law" = some (.ref fa)) : ∃ T : Txt K mg w, T.f_law = fa := by
  have e := hfa.symm.trans (PySem.W.mg_of X G ga_law)
  cases e
  have FD_pattern_of : ∃ fd, fd = PySem.W.fnOf "pattern_of" "pattern_of" (defArgs s_pattern_of) (defBody s_pattern_of) (defScope s_pattern_of) .none (.ref kD_pattern_of) dc_pattern_of pm_pattern_of an_pattern_of cd_pattern_of ct_pattern_of ∧ FunD K "pattern_of" "pattern_of" (defArgs s_pattern_of) (defBody s_pattern_of) (defScope s_pattern_of) [] [("most", V.int 60)] f_pattern_of fd := by
    refine ⟨_, rfl, ⟨⟨oc_pattern_of, od_pattern_of, .none, .ref kD_pattern_of, dc_pattern_of, pm_pattern_of, an_pattern_of, cd_pattern_of, ct_pattern_of, sl_pattern_of, rfl, l_pattern_of, cc_pattern_of, .inl ⟨rfl, rfl⟩, .inr ⟨kD_pattern_of, rfl, fun q hq => ?_⟩⟩, k_pattern_of⟩⟩
    (rcases List.mem_cons.mp hq with rfl | hq; exact ⟨_, kd_pattern_of_most, ⟨_, rfl⟩⟩); cases hq
  obtain ⟨fdx_pattern_of, fe_pattern_of, FD_pattern_of⟩ := FD_pattern_of
  obtain ⟨ds_pattern_of, dv_pattern_of, b_pattern_of⟩ := FD_pattern_of.binds0 (ps := ["machine", "most"]) 1 (by decide) rfl fun D doc pm an cdv ct us ks h1 h2 => match us, ks, h1, h2 with | [_], [_], _, _ => ⟨_, _, _, _, _, _, rfl, rfl, rfl⟩
  obtain ⟨mv_pattern_of, bk_pattern_of⟩ := FD_pattern_of.kbinds0 (ps := ["machine", "most"]) 1 ["most"] [] (fun us _ ws => us ++ ws) (by decide) (fun q hq => by cases hq) (fun r1 _ r2 => r1.append r2) fun D doc pm an cdv ct us mv ws h1 h2 h3 => match us, ws, mv, h1, h2, h3 with | [_], [_], [], _, _, _ => rfl
  subst fe_pattern_of
  exact ⟨{
      a_LensError := a_LensError,
      g_LensError := PySem.W.mg_of X G ga_LensError,
      k_LensError := k_LensError,
      x_LensError := x_LensError,
      bP_LensError := bP_LensError,
      tP_LensError := tP_LensError,
      iP_LensError := iP_LensError,
      a_TooMany := a_TooMany,
      g_TooMany := PySem.W.mg_of X G ga_TooMany,
      k_TooMany := k_TooMany,
      o_TooMany := ⟨⟨nm_TooMany, q_TooMany, N_TooMany, bs_TooMany, _, sn_TooMany, sub_TooMany, ab_TooMany, col_TooMany, dd_TooMany, m0_TooMany, m1_TooMany, m2_TooMany, m3_TooMany, m5_TooMany, oc_TooMany, orf_TooMany⟩, osa_TooMany, oxc_TooMany, otc_TooMany, k_TooMany⟩,
      ec_TooMany := ⟨oga_TooMany, ogg_TooMany, oxc_TooMany, ohd_TooMany, ocl_TooMany, hn_, htk_, omr_TooMany⟩,
      on_TooMany := on_TooMany,
      ot_TooMany := ot_TooMany,
      a_Machine := a_Machine,
      g_Machine := PySem.W.mg_of X G ga_Machine,
      k_Machine := k_Machine,
      c_Machine := ⟨pg_Machine, hd_Machine, po_Machine, sa_Machine⟩,
      n_Machine_rows := n_Machine_rows,
      n_Machine_finals := n_Machine_finals,
      ha_Machine := ha_Machine,
      hm_Machine := hm_Machine,
      hn_ := hn_,
      htk_ := htk_,
      oi_TooMany := ga_TooMany_init,
      f_TooMany_init := f_TooMany_init,
      fd_TooMany_init := _,
      F_TooMany_init := fun_mk (st := s_TooMany_init) l_TooMany_init cc_TooMany_init k_TooMany_init,
      b_TooMany_init := (fun_mk (st := s_TooMany_init) l_TooMany_init cc_TooMany_init k_TooMany_init).binds (ps := ["self", "limit"]) fun _ _ _ _ _ _ us hl => match us, hl with | [_, _], _ => rfl,
      g_reached := PySem.W.mg_of X G ga_reached,
      f_reached := f_reached,
      fd_reached := _,
      F_reached := fun_mk (st := s_reached) l_reached cc_reached k_reached,
      b_reached := (fun_mk (st := s_reached) l_reached cc_reached k_reached).binds (ps := ["rows"]) fun _ _ _ _ _ _ us hl => match us, hl with | [_], _ => rfl,
      g_refined := PySem.W.mg_of X G ga_refined,
      f_refined := f_refined,
      fd_refined := _,
      F_refined := fun_mk (st := s_refined) l_refined cc_refined k_refined,
      b_refined := (fun_mk (st := s_refined) l_refined cc_refined k_refined).binds (ps := ["rows", "order", "marks"]) fun _ _ _ _ _ _ us hl => match us, hl with | [_, _, _], _ => rfl,
      g_classes := PySem.W.mg_of X G ga_classes,
      f_classes := f_classes,
      fd_classes := _,
      F_classes := fun_mk (st := s_classes) l_classes cc_classes k_classes,
      b_classes := (fun_mk (st := s_classes) l_classes cc_classes k_classes).binds (ps := ["rows", "finals", "order"]) fun _ _ _ _ _ _ us hl => match us, hl with | [_, _, _], _ => rfl,
      g_least := PySem.W.mg_of X G ga_least,
      f_least := f_least,
      fd_least := _,
      F_least := fun_mk (st := s_least) l_least cc_least k_least,
      b_least := (fun_mk (st := s_least) l_least cc_least k_least).binds (ps := ["rows", "finals"]) fun _ _ _ _ _ _ us hl => match us, hl with | [_, _], _ => rfl,
      m_Machine_init := ⟨ga_Machine_init, i_Machine_init, k_Machine_init⟩,
      M_Machine := ⟨mk_Machine, ga_Machine_init, i_Machine_init, k_Machine⟩,
      f_Machine_init := f_Machine_init,
      fd_Machine_init := _,
      F_Machine_init := fun_mk (st := s_Machine_init) l_Machine_init cc_Machine_init k_Machine_init,
      b_Machine_init := (fun_mk (st := s_Machine_init) l_Machine_init cc_Machine_init k_Machine_init).binds (ps := ["self", "rows", "finals"]) fun _ _ _ _ _ _ us hl => match us, hl with | [_, _, _], _ => rfl,
      pr_Machine_states := ⟨pa_Machine_states, pb_Machine_states, pc_Machine_states, ⟨_, pd_Machine_states⟩⟩,
      p_Machine_states := p_Machine_states,
      f_Machine_states := f_Machine_states,
      fd_Machine_states := _,
      F_Machine_states := fun_mk (st := s_Machine_states) l_Machine_states cc_Machine_states k_Machine_states,
      b_Machine_states := (fun_mk (st := s_Machine_states) l_Machine_states cc_Machine_states k_Machine_states).binds (ps := ["self"]) fun _ _ _ _ _ _ us hl => match us, hl with | [_], _ => rfl,
      m_Machine_state_after := ⟨ga_Machine_state_after, i_Machine_state_after, k_Machine_state_after⟩,
      f_Machine_state_after := f_Machine_state_after,
      fd_Machine_state_after := _,
      F_Machine_state_after := fun_mk (st := s_Machine_state_after) l_Machine_state_after cc_Machine_state_after k_Machine_state_after,
      b_Machine_state_after := (fun_mk (st := s_Machine_state_after) l_Machine_state_after cc_Machine_state_after k_Machine_state_after).binds (ps := ["self", "text"]) fun _ _ _ _ _ _ us hl => match us, hl with | [_, _], _ => rfl,
      m_Machine_contains := ⟨ga_Machine_contains, i_Machine_contains, k_Machine_contains⟩,
      f_Machine_contains := f_Machine_contains,
      fd_Machine_contains := _,
      F_Machine_contains := fun_mk (st := s_Machine_contains) l_Machine_contains cc_Machine_contains k_Machine_contains,
      b_Machine_contains := (fun_mk (st := s_Machine_contains) l_Machine_contains cc_Machine_contains k_Machine_contains).binds (ps := ["self", "text"]) fun _ _ _ _ _ _ us hl => match us, hl with | [_, _], _ => rfl,
      m_Machine_eq := ⟨ga_Machine_eq, i_Machine_eq, k_Machine_eq⟩,
      f_Machine_eq := f_Machine_eq,
      fd_Machine_eq := _,
      F_Machine_eq := fun_mk (st := s_Machine_eq) l_Machine_eq cc_Machine_eq k_Machine_eq,
      b_Machine_eq := (fun_mk (st := s_Machine_eq) l_Machine_eq cc_Machine_eq k_Machine_eq).binds (ps := ["self", "other"]) fun _ _ _ _ _ _ us hl => match us, hl with | [_, _], _ => rfl,
      g_dead_state := PySem.W.mg_of X G ga_dead_state,
      f_dead_state := f_dead_state,
      fd_dead_state := _,
      F_dead_state := fun_mk (st := s_dead_state) l_dead_state cc_dead_state k_dead_state,
      b_dead_state := (fun_mk (st := s_dead_state) l_dead_state cc_dead_state k_dead_state).binds (ps := ["machine"]) fun _ _ _ _ _ _ us hl => match us, hl with | [_], _ => rfl,
      g_sized := PySem.W.mg_of X G ga_sized,
      f_sized := f_sized,
      fd_sized := _,
      F_sized := fun_mk (st := s_sized) l_sized cc_sized k_sized,
      b_sized := (fun_mk (st := s_sized) l_sized cc_sized k_sized).binds (ps := ["kind", "parts", "most"]) fun _ _ _ _ _ _ us hl => match us, hl with | [_, _, _], _ => rfl,
      g_in_front := PySem.W.mg_of X G ga_in_front,
      f_in_front := f_in_front,
      fd_in_front := _,
      F_in_front := fun_mk (st := s_in_front) l_in_front cc_in_front k_in_front,
      b_in_front := (fun_mk (st := s_in_front) l_in_front cc_in_front k_in_front).binds (ps := ["first", "part", "most"]) fun _ _ _ _ _ _ us hl => match us, hl with | [_, _, _], _ => rfl,
      g_added := PySem.W.mg_of X G ga_added,
      f_added := f_added,
      fd_added := _,
      F_added := fun_mk (st := s_added) l_added cc_added k_added,
      b_added := (fun_mk (st := s_added) l_added cc_added k_added).binds (ps := ["known", "key", "part", "most"]) fun _ _ _ _ _ _ us hl => match us, hl with | [_, _, _, _], _ => rfl,
      g_equation := PySem.W.mg_of X G ga_equation,
      f_equation := f_equation,
      fd_equation := _,
      F_equation := fun_mk (st := s_equation) l_equation cc_equation k_equation,
      b_equation := (fun_mk (st := s_equation) l_equation cc_equation k_equation).binds (ps := ["machine", "state", "dead"]) fun _ _ _ _ _ _ us hl => match us, hl with | [_, _, _], _ => rfl,
      g_solved := PySem.W.mg_of X G ga_solved,
      f_solved := f_solved,
      fd_solved := _,
      F_solved := fun_mk (st := s_solved) l_solved cc_solved k_solved,
      b_solved := (fun_mk (st := s_solved) l_solved cc_solved k_solved).binds (ps := ["terms", "state", "most"]) fun _ _ _ _ _ _ us hl => match us, hl with | [_, _, _], _ => rfl,
      g_pattern_of := PySem.W.mg_of X G ga_pattern_of,
      f_pattern_of := f_pattern_of,
      fd_pattern_of := _,
      F_pattern_of := fun_mk (st := s_pattern_of) l_pattern_of cc_pattern_of k_pattern_of,
      ds_pattern_of := ds_pattern_of,
      dv_pattern_of := dv_pattern_of,
      b_pattern_of := b_pattern_of,
      bk_pattern_of := bk_pattern_of,
      g__law_mix := PySem.W.mg_of X G ga__law_mix,
      f__law_mix := f__law_mix,
      fd__law_mix := _,
      F__law_mix := fun_mk (st := s__law_mix) l__law_mix cc__law_mix k__law_mix,
      b__law_mix := (fun_mk (st := s__law_mix) l__law_mix cc__law_mix k__law_mix).binds (ps := ["cell", "k"]) fun _ _ _ _ _ _ us hl => match us, hl with | [_, _], _ => rfl,
      g__law_stream := PySem.W.mg_of X G ga__law_stream,
      f__law_stream := f__law_stream,
      fd__law_stream := _,
      F__law_stream := fun_mk (st := s__law_stream) l__law_stream cc__law_stream k__law_stream,
      b__law_stream := (fun_mk (st := s__law_stream) l__law_stream cc__law_stream k__law_stream).binds (ps := ["script", "many"]) fun _ _ _ _ _ _ us hl => match us, hl with | [_, _], _ => rfl,
      g__law_pick := PySem.W.mg_of X G ga__law_pick,
      f__law_pick := f__law_pick,
      fd__law_pick := _,
      F__law_pick := fun_mk (st := s__law_pick) l__law_pick cc__law_pick k__law_pick,
      b__law_pick := (fun_mk (st := s__law_pick) l__law_pick cc__law_pick k__law_pick).binds (ps := ["numbers", "at", "many"]) fun _ _ _ _ _ _ us hl => match us, hl with | [_, _, _], _ => rfl,
      g__law_kind := PySem.W.mg_of X G ga__law_kind,
      f__law_kind := f__law_kind,
      fd__law_kind := _,
      F__law_kind := fun_mk (st := s__law_kind) l__law_kind cc__law_kind k__law_kind,
      b__law_kind := (fun_mk (st := s__law_kind) l__law_kind cc__law_kind k__law_kind).binds (ps := ["value"]) fun _ _ _ _ _ _ us hl => match us, hl with | [_], _ => rfl,
      g__law_same := PySem.W.mg_of X G ga__law_same,
      f__law_same := f__law_same,
      fd__law_same := _,
      F__law_same := fun_mk (st := s__law_same) l__law_same cc__law_same k__law_same,
      b__law_same := (fun_mk (st := s__law_same) l__law_same cc__law_same k__law_same).binds (ps := ["answer", "due"]) fun _ _ _ _ _ _ us hl => match us, hl with | [_, _], _ => rfl,
      g__law_apart := PySem.W.mg_of X G ga__law_apart,
      f__law_apart := f__law_apart,
      fd__law_apart := _,
      F__law_apart := fun_mk (st := s__law_apart) l__law_apart cc__law_apart k__law_apart,
      b__law_apart := (fun_mk (st := s__law_apart) l__law_apart cc__law_apart k__law_apart).binds (ps := ["rows", "finals"]) fun _ _ _ _ _ _ us hl => match us, hl with | [_, _], _ => rfl,
      g__law_least := PySem.W.mg_of X G ga__law_least,
      f__law_least := f__law_least,
      fd__law_least := _,
      F__law_least := fun_mk (st := s__law_least) l__law_least cc__law_least k__law_least,
      b__law_least := (fun_mk (st := s__law_least) l__law_least cc__law_least k__law_least).binds (ps := ["rows", "finals"]) fun _ _ _ _ _ _ us hl => match us, hl with | [_, _], _ => rfl,
      g__law_drawn := PySem.W.mg_of X G ga__law_drawn,
      f__law_drawn := f__law_drawn,
      fd__law_drawn := _,
      F__law_drawn := fun_mk (st := s__law_drawn) l__law_drawn cc__law_drawn k__law_drawn,
      b__law_drawn := (fun_mk (st := s__law_drawn) l__law_drawn cc__law_drawn k__law_drawn).binds (ps := ["numbers", "first"]) fun _ _ _ _ _ _ us hl => match us, hl with | [_, _], _ => rfl,
      g__law_ladder := PySem.W.mg_of X G ga__law_ladder,
      f__law_ladder := f__law_ladder,
      fd__law_ladder := _,
      F__law_ladder := fun_mk (st := s__law_ladder) l__law_ladder cc__law_ladder k__law_ladder,
      b__law_ladder := (fun_mk (st := s__law_ladder) l__law_ladder cc__law_ladder k__law_ladder).binds (ps := ["numbers", "first"]) fun _ _ _ _ _ _ us hl => match us, hl with | [_, _], _ => rfl,
      g__law_live := PySem.W.mg_of X G ga__law_live,
      f__law_live := f__law_live,
      fd__law_live := _,
      F__law_live := fun_mk (st := s__law_live) l__law_live cc__law_live k__law_live,
      b__law_live := (fun_mk (st := s__law_live) l__law_live cc__law_live k__law_live).binds (ps := ["rows", "finals"]) fun _ _ _ _ _ _ us hl => match us, hl with | [_, _], _ => rfl,
      g__law_equation := PySem.W.mg_of X G ga__law_equation,
      f__law_equation := f__law_equation,
      fd__law_equation := _,
      F__law_equation := fun_mk (st := s__law_equation) l__law_equation cc__law_equation k__law_equation,
      b__law_equation := (fun_mk (st := s__law_equation) l__law_equation cc__law_equation k__law_equation).binds (ps := ["rows", "finals", "live", "state"]) fun _ _ _ _ _ _ us hl => match us, hl with | [_, _, _, _], _ => rfl,
      g__law_before := PySem.W.mg_of X G ga__law_before,
      f__law_before := f__law_before,
      fd__law_before := _,
      F__law_before := fun_mk (st := s__law_before) l__law_before cc__law_before k__law_before,
      b__law_before := (fun_mk (st := s__law_before) l__law_before cc__law_before k__law_before).binds (ps := ["one", "two"]) fun _ _ _ _ _ _ us hl => match us, hl with | [_, _], _ => rfl,
      g__law_added := PySem.W.mg_of X G ga__law_added,
      f__law_added := f__law_added,
      fd__law_added := _,
      F__law_added := fun_mk (st := s__law_added) l__law_added cc__law_added k__law_added,
      b__law_added := (fun_mk (st := s__law_added) l__law_added cc__law_added k__law_added).binds (ps := ["one", "two"]) fun _ _ _ _ _ _ us hl => match us, hl with | [_, _], _ => rfl,
      g__law_solved := PySem.W.mg_of X G ga__law_solved,
      f__law_solved := f__law_solved,
      fd__law_solved := _,
      F__law_solved := fun_mk (st := s__law_solved) l__law_solved cc__law_solved k__law_solved,
      b__law_solved := (fun_mk (st := s__law_solved) l__law_solved cc__law_solved k__law_solved).binds (ps := ["rows", "finals"]) fun _ _ _ _ _ _ us hl => match us, hl with | [_, _], _ => rfl,
      g__law_tried := PySem.W.mg_of X G ga__law_tried,
      f__law_tried := f__law_tried,
      fd__law_tried := _,
      F__law_tried := fun_mk (st := s__law_tried) l__law_tried cc__law_tried k__law_tried,
      b__law_tried := (fun_mk (st := s__law_tried) l__law_tried cc__law_tried k__law_tried).binds (ps := ["machine", "wide"]) fun _ _ _ _ _ _ us hl => match us, hl with | [_, _], _ => rfl,
      g__law_told := PySem.W.mg_of X G ga__law_told,
      f__law_told := f__law_told,
      fd__law_told := _,
      F__law_told := fun_mk (st := s__law_told) l__law_told cc__law_told k__law_told,
      b__law_told := (fun_mk (st := s__law_told) l__law_told cc__law_told k__law_told).binds (ps := ["automaton"]) fun _ _ _ _ _ _ us hl => match us, hl with | [_], _ => rfl,
      g_law := PySem.W.mg_of X G ga_law,
      f_law := f_law,
      fd_law := _,
      F_law := fun_mk (st := s_law) l_law cc_law k_law,
      b_law := (fun_mk (st := s_law) l_law cc_law k_law).binds (ps := ["script"]) fun _ _ _ _ _ _ us hl => match us, hl with | [_], _ => rfl,
      bt_law := fun s v => .of_eq rfl,
      z_abs := PySem.W.mg_none_of X G zz_abs,
      z_bool := PySem.W.mg_none_of X G zz_bool,
      z_int := PySem.W.mg_none_of X G zz_int,
      z_isinstance := PySem.W.mg_none_of X G zz_isinstance,
      z_len := PySem.W.mg_none_of X G zz_len,
      z_list := PySem.W.mg_none_of X G zz_list,
      z_min := PySem.W.mg_none_of X G zz_min,
      z_range := PySem.W.mg_none_of X G zz_range,
      z_sorted := PySem.W.mg_none_of X G zz_sorted,
      z_str := PySem.W.mg_none_of X G zz_str,
      z_sum := PySem.W.mg_none_of X G zz_sum,
      z_tuple := PySem.W.mg_none_of X G zz_tuple,
      z_zip := PySem.W.mg_none_of X G zz_zip,
      tk_MOST_STATES := tkx_MOST_STATES,
      g_MOST_STATES := PySem.W.mg_of X G ga_MOST_STATES,
      tk_SIGNS := tkx_SIGNS,
      g_SIGNS := PySem.W.mg_of X G ga_SIGNS,
      a_PLACES := a_PLACES,
      g_PLACES := PySem.W.mg_of X G ga_PLACES,
      kd_PLACES := Gx.kiv_of dw_PLACES di_PLACES,
      a_EMPTY := a_EMPTY,
      b_EMPTY := b_EMPTY,
      g_EMPTY := PySem.W.mg_of X G ga_EMPTY,
      kt_EMPTY := Gx.kts_of kty_EMPTY kts_EMPTY,
      kp_EMPTY := Gx.kp_of kpt_EMPTY kpw_EMPTY,
      em_tm := em_tm }, rfl⟩
end K15
namespace K15
open PySem PySem.Spec PyProof.Rows L2
local macro_rules | `(tactic| walk_at "con") => `(tactic| first | with_reducible refine Gx.conE K15.ks0 ?_ | with_reducible refine Gx.conE K15.ks1 ?_ | with_reducible refine Gx.conE K15.ks2 ?_ | with_reducible refine Gx.conE K15.ks3 ?_ | with_reducible refine Gx.conE K15.ks4 ?_ | with_reducible refine Gx.conE K15.ks5 ?_ | with_reducible refine Gx.conE K15.ks6 ?_ | with_reducible refine Gx.conE K15.ks7 ?_ | with_reducible refine Gx.conE K15.ks8 ?_ | with_reducible refine Gx.conE K15.ks9 ?_ | with_reducible refine Gx.conE K15.ks10 ?_ | with_reducible refine Gx.conE K15.ks11 ?_ | with_reducible refine Gx.conE K15.ks12 ?_ | with_reducible refine Gx.conE K15.ks13 ?_ | with_reducible refine Gx.conE K15.ks14 ?_ | with_reducible refine Gx.conE K15.ks15 ?_)
section
variable {P : Program} {w : World} {K : PySem.W.Frag} {mg : Str → Option Value} {base : Heap}
/-! ### a dict comprehension whose values may raise -/
theorem ok_off {P : Program} {w : World} {H : Hp} {h h' : Heap} {C : Addr} (x : HOk P w H h) (n : H C = none) (k : ∀ b o, b ≠ C → h.get? b = some o → h'.get? b = some o) : HOk P w H h' := fun b u e => by
  have nit : ∀ b u, H b = some u → b ≠ C := fun b u e z => by rw [z, n] at e; cases e
  refine (x b u e).stay (fun c v hc q => k c v ?_ q) (fun _ q => q) fun _ _ q => q
  rcases hc with z | z
  · rw [z]; exact nit b u e
  · exact nit c _ z
theorem frames_sub {h h' B B' : Heap} {C : Addr} {m : Str → Option Value} (hs : Heap.SameBut C h h') (hn : h'.Ns C m) (sub : ∀ b, B.get? b = none → B'.get? b = none) : ∀ {l : List Env}, h.FunFrames B l → h'.FunFrames B' l
  | [], _ => trivial
  | _ :: _, ⟨hk, ⟨L', o, hf, hb, ho, hd⟩, hr⟩ => by
    refine ⟨hk, ?_, frames_sub hs hn sub hr⟩
    by_cases q : L' = C
    · obtain ⟨o', es, ep, ho', hd', _⟩ := hn
      exact ⟨L', o', hf, sub _ hb, by rw [q]; exact ho', fun vs z => by rw [hd'] at z; cases z⟩
    · exact ⟨L', o, hf, sub _ hb, (hs.2 L' q).trans ho, hd⟩
theorem comp_out {X : Cx} {pins : List (Addr × Obj)} {σ : L2.St} {H : Hp} {s s1 : Shared} {C : Addr} {m : Str → Option Value} {cenv : Env} {E : XK} {W : WX} {u : Value} (hs : X.stack = X.env :: X.outer) (hf : X.env.frame = some X.env.locals) (hcf : cenv.frame = X.env.frame) (hcl : cenv.locals = C)
    (tk : Takes X W) (I : Inv X pins σ H s) (f : FpOk X pins H C) (hn : s.heap.Ns C m) (hCs : C ∉ frs X.stack) (hW : ∀ cls d H', E cls d H' → W cls d σ H') (c : L2.CX X.prog X.w X.stack H s E u s1) : notedBy (model X.prog X.w) X.A cenv (CompFails (model X.prog X.w) X.A X.xe cenv) u s1 := by
  obtain ⟨a, B, H', cls, d, rfl, fl, hok, ub, na, os, ag, hE⟩ := c
  have hfr : X.A.frames = some (X.env :: X.outer) := by rw [I.ok.frames, hs]
  obtain ⟨oC, es, ep, hoC, hdC, hrC⟩ := hn
  have bC : B.get? C = some oC := ub.keep C oC hoC f.1 hCs
  have nC : H' C = none := ub.free C oC hoC f.1
  show wpAny _ _ (noteFrame (.ref a) cenv) _ _ s1
  rw [noteFrame_env _ hcf]
  have fl' := fl
  rw [hs] at fl'
  refine HandSPX.looks_onZ Zc.steady hfr hf fl' (fun h1 held up1 => ?_)
  obtain ⟨k1, k2, k3, oe, vs, T, oT, ts, he, hz, hd, e1, hnT, hTe, hT, hdT, e3⟩ := held
  have n1 : h1.Ns cenv.locals m := by rw [hcl]; exact ⟨oC, es, ep, k1 _ _ bC, hdC, hrC⟩
  refine ⟨m, n1, fun h2 m2 hn2 sb => ?_⟩
  rw [hcl] at hn2 sb
  obtain ⟨B', r1, r2⟩ := restrict B fun b => decide (b ≠ C)
  have rN : B'.get? C = none := r2 C (by simp)
  have rK : ∀ b, b ≠ C → B'.get? b = B.get? b := fun b hb => r1 b (by simpa using hb)
  have rS : ∀ b o, B'.get? b = some o → b ≠ C ∧ B.get? b = some o := fun b o e => by
    have hb : b ≠ C := fun z => by rw [z, rN] at e; cases e
    exact ⟨hb, by rw [← rK b hb]; exact e⟩
  have rO : ∀ b, B.get? b = none → B'.get? b = none := fun b e => by
    by_cases hb : b = C
    · rw [hb]; exact rN
    · rw [rK b hb]; exact e
  have aC : a ≠ C := fun z => by rw [z, bC] at k2; cases k2
  have TC : T ≠ C := fun z => by rw [z, bC] at hnT; cases hnT
  have st2 : B'.StaysIn h2 := fun b o e => by
    obtain ⟨hb, e'⟩ := rS b o e
    exact (sb.2 b hb).trans (k1 b o e')
  have fr2 : h2.FunFrames B' (X.env :: X.outer) := frames_sub sb hn2 rO k3
  have tr2 : HandSPX.TracedZ h2 B' a (Zc cls d) (rawInt X.env.locals) := ⟨oe, vs, T, oT, ts, (sb.2 a aC).trans he, hz, hd, e1, rO _ hnT, hTe, (sb.2 T TC).trans hT, hdT, e3⟩
  unfold PySem.passOn
  refine wpAny_bind (wpAny_field ((sb.2 a aC).trans he) hd e1 ?_)
  rw [if_neg (show ¬ ((Value.ref T == Value.none) = true) from by simp)]
  rw [hcf, hf]
  refine wpAny_bind (HandSPX.setFlight_anyZ st2 fr2 tr2 fun h3 j1 j2 j3 up3 => wpAny_throw (tk _ _ ?_))
  -- the state without the exception
  obtain ⟨G, g1, g2⟩ := restrict h3 fun b => (B'.get? b).isSome || decide (b ∈ frs X.stack)
  have gB : ∀ b o, B'.get? b = some o → G.get? b = some o := fun b o e => by
    rw [g1 b (by simp [e])]
    exact j1 b o e
  have gF : ∀ b, b ∈ frs X.stack → G.get? b = h3.get? b := fun b hb => g1 b (by simp [hb])
  have og : ∀ b o, G.get? b = some o → h3.get? b = some o ∧ ((B'.get? b).isSome = true ∨ b ∈ frs X.stack) := fun b o e => by
    cases q : ((B'.get? b).isSome || decide (b ∈ frs X.stack)) with
    | false => rw [g2 b q] at e; cases e
    | true =>
      rw [g1 b q] at e
      exact ⟨e, by simpa [Bool.or_eq_true] using q⟩
  have slots : ∀ b o, s.heap.get? b = some o → b ∈ frs X.stack → ∃ sl, G.get? b = some { o with slots := sl } := fun b o e hb => by
    obtain ⟨sl, q⟩ := ub.slot b o e hb
    obtain ⟨_, o0, e0, hnf⟩ := fl.2.2.1.mem hb
    rw [q] at e0
    cases e0
    obtain ⟨sl2, q2⟩ := up1 b _ q hnf
    have bC' : b ≠ C := fun z => hCs (by rw [← z]; exact hb)
    obtain ⟨sl3, q3⟩ := up3 b _ ((sb.2 b bC').trans q2) hnf
    exact ⟨sl3, by rw [gF b hb]; exact q3⟩
  refine ⟨a, B', { s with heap := G, gens := s1.gens, drawn := s1.drawn, toks := s1.toks }, pins, σ, H', cls, d, rfl, ?_, fun b o e hb => ?_, Heap.UpToSlots.of_keeps fun b o e => (og b o e).1, .inr (.inr ?_), na, os, ag, hW _ _ _ hE⟩
  · refine I.call (ch := [C]) ⟨fun b o e n hb hx => ?_, fun b o e n hb _ => slots b o e hb, fun b o e n _ => ub.free b o e n, fun b o e hx => ?_, ub.tups, ub.frzs, ub.tbls⟩ ((ok_off hok nC fun b o hb e => (rK b hb).trans e).kept gB) ag (fun b hb => ?_)
    · exact gB b o ((rK b (fun z => hx (by simp [z]))).trans (ub.keep b o e n hb))
    · by_cases hb : b ∈ frs X.stack
      · obtain ⟨sl, q⟩ := slots b o e hb
        exact ⟨_, q⟩
      · obtain ⟨o', q⟩ := ub.there b o e hb
        exact ⟨o', gB b o' ((rK b (fun z => hx (by simp [z]))).trans q)⟩
    · have e : b = C := by simpa using hb
      subst e
      exact ⟨f.2.2.2.1, f.2.1, f.2.2.2.2.1, f.2.2.2.2.2⟩
  · obtain ⟨e', h⟩ := og b o e
    rcases h with h | h
    · obtain ⟨o', q⟩ := Option.isSome_iff_exists.mp h
      have z := j1 b o' q
      rw [e'] at z; cases z
      exact q
    · exact absurd h hb
  · rw [hs]
    exact ⟨j1, rO _ k2, j2, j3⟩
/-- {k: v for target in iter if ..}, what v raises is wished for at the slots of the def -/
def tDcX (wi : TI) (g : TG) (tt : TT) (tk : TE) (tv : XK → TE) (W : WX) (vs : List Nat) : TE := fun σ H Q => tDc wi g tt tk (tv fun cls d H' => W cls d σ H') vs σ H Q
theorem pe_dcX {X : Cx} {W : WX} {kx vx tg iter : Expr} {ifs : List Expr} {scope : Scope} {own : List (Str × Nat)} {pos : Pos} {wi : TI} {g : TG} {tt : TT} {tk : TE} {tv : XK → TE} (hc : X.calm = true) (hN : X.N.Nodup) (hst : X.stack = X.env :: X.outer) (hfr : X.env.frame = some X.env.locals) (tkW : Takes X W) (hi : PI X tg iter wi) (ok : BlkOk X.N X.env.scope scope own)
    (hg : ∀ (s : Shared) (H : Hp) (C : Addr) (cl : List (Str × Addr)) (fp : List Addr), PG (X.blk s H scope (compEnvC scope cl C X.env) fp) tg g) (ht : ∀ (s : Shared) (H : Hp) (C : Addr) (cl : List (Str × Addr)) (fp : List Addr), PTs (X.blk s H scope (compEnvC scope cl C X.env) fp) ifs tt)
    (hk : ∀ (s : Shared) (H : Hp) (C : Addr) (cl : List (Str × Addr)) (fp : List Addr), PE (X.blk s H scope (compEnvC scope cl C X.env) fp) kx tk)
    (he : ∀ (s : Shared) (H : Hp) (C : Addr) (cl : List (Str × Addr)) (fp : List Addr) (xe : Value → Shared → Prop) (V : XK), (∀ σ', PassesAt (L2.CX X.prog X.w) ((X.blk s H scope (compEnvC scope cl C X.env) fp).wish xe) σ' V) → PE ((X.blk s H scope (compEnvC scope cl C X.env) fp).wish xe) vx (tv V))
    (hs : ∀ x, foldedSetIterable iter X.env x = pure x := by intro _; rfl) :
    PE X (.DictComp kx vx [⟨tg, iter, ifs, 0⟩] scope pos) (tDcX wi g tt tk tv W (own.map (·.2))) := by
  refine ⟨fun pins s σ H Qv I h => ?_⟩
  rw [arm_eval_DictComp]
  have hfree : ∀ y ∈ scope.names, y.2 = .free → ∃ c, X.env.cells.lookup y.1 = some c := fun y hy e => by
    rcases ok.free y hy e with k | k
    · exact I.ok.has _ (.inl k)
    · exact I.ok.has _ (.inr k)
  refine comprehension_at (use := none) rfl hs (closure_ok hfree) ok.kind (fun y hy e => by rw [ok.uniq y hy, e])
    (thn (hi.run pins s σ H _ I h) fun xv s1 hx => thn hx fun itv s2 h2 => ?_)
  obtain ⟨it, fp, tn, J, H2, e, I2, T, st2, f2, q⟩ := h2
  subst e
  refine wpAny_newObj_type (newEnv_comp ?_)
  generalize hD : s2.heap.objs.size = D
  have hDn : H2 D = none := I2.hok.fresh (Nat.le_of_eq hD)
  obtain ⟨Wm, ⟨m0, w0⟩, turn⟩ := q D hDn
  generalize hs3 : ({ s2 with heap := s2.heap.push { cls := .type "dict", data := .dict #[] } } : Shared) = s3
  have I3 : Inv X pins σ (upd H2 D (.dK [])) s3 := by
    rw [← hs3]
    refine I2.laid (t' := s2.toks) (fun b o e => Heap.get?_push_of_some _ e) (Nat.le_of_eq hD) ?_
    rw [← hD]
    exact dk_empty s2.heap I2.big
  have h3 : s3.heap = s2.heap.push { cls := .type "dict", data := .dict #[] } := by rw [← hs3]
  have sz : ∀ b ∈ fp, b < s2.heap.objs.size := fun b hb => by
    obtain ⟨o, e, _⟩ := T.obj _ _ st2 b hb
    exact Heap.lt_size e
  have f3 : ∀ b ∈ fp, FpOk X pins (upd H2 D (.dK [])) b ∧ b < s3.heap.objs.size := fun b hb => by
    have hlt := sz b hb
    refine ⟨⟨?_, (f2 b hb).2⟩, by rw [h3, Heap.size_push]; exact Nat.lt_succ_of_lt hlt⟩
    rw [upd_ne (by rw [← hD]; exact Nat.ne_of_lt hlt)]
    exact (f2 b hb).1
  have st3 : tn 0 s3.heap := T.keep _ _ _ st2 fun b _ o e => by rw [h3]; exact Heap.get?_push_of_some _ e
  have I4 := block_start I3 ok hN f3
  generalize hcl' : cellsFrom (s3.heap.objs.size + 1) scope.names (cloFrom X.env.cells scope.names []) = cl at I4
  have pg := hg s3 (upd H2 D (.dK [])) s3.heap.objs.size cl fp
  have pt := ht s3 (upd H2 D (.dK [])) s3.heap.objs.size cl fp
  have pk := hk s3 (upd H2 D (.dK [])) s3.heap.objs.size cl fp
  have pe := he s3 (upd H2 D (.dK [])) s3.heap.objs.size cl fp
  show codeAny _ _ (.compStart (.DictComp kx vx [⟨tg, iter, ifs, 0⟩] scope pos) 0 (.ref it) (.ref D) (compEnvC scope cl s3.heap.objs.size X.env)) (compEnds (model X.prog X.w) X.A X.xe none (EP X pins σ Qv) (.ref D) (compEnvC scope cl s3.heap.objs.size X.env)) { s3 with heap := pushCells (s3.heap.push { cls := .type "dict", data := .dict #[] }) scope.names }
  have nfp : ∀ b ∈ fp, (upd H2 D (.dK [])) b = none := fun b hb => (f3 b hb).1.1
  have cF : (compEnvC scope cl s3.heap.objs.size X.env).frame = X.env.frame := rfl
  generalize hce2 : compEnvC scope cl s3.heap.objs.size X.env = ce at I4 pg pt pk pe cF ⊢
  have cL : ce.locals = s3.heap.objs.size := by subst hce2; rfl
  generalize hH3 : upd H2 D (.dK []) = H3 at I3 I4 pg pt pk pe w0 nfp f3
  generalize hs4 : ({ s3 with heap := pushCells (s3.heap.push { cls := .type "dict", data := .dict #[] }) scope.names } : Shared) = s4 at I4 ⊢
  have st4 : tn 0 s4.heap := T.keep _ _ _ st3 fun b _ o e => by rw [← hs4]; exact pushCells_keeps _ _ _ _ (Heap.get?_push_of_some _ e)
  have stat : ∀ {σ' : L2.St} {H' : Hp} {s' : Shared}, Inv (X.blk s3 H3 scope ce fp) [] σ' H' s' → (∀ b ∈ fp, H' b = none) → ∀ b ∈ fp, FpOk (X.blk s3 H3 scope ce fp) [] H' b := fun {σ' H' s'} I' hn b hb =>
    ⟨hn b hb, (I'.ok.exf b hb).1, I'.ok.exfs b hb, .inl hb, fun x c e => (I'.ok.exf b hb).2 x c e, fun p hp => absurd (show p ∈ ([] : List (Addr × Obj)) ++ [] from hp) (by simp)⟩
  -- back in the def's context
  have back : ∀ {pins' : List (Addr × Obj)} {σ' : L2.St} {H' : Hp} {s' : Shared}, Inv (X.blk s3 H3 scope ce fp) pins' σ' H' s' → Inv X pins σ H' s' ∧ FpOk X pins H' s3.heap.objs.size ∧ ∃ m, s'.heap.Ns s3.heap.objs.size m := fun {pins' σ' H' s'} I6 => by
    have nC : H' s3.heap.objs.size = none := by
      have z : H' ce.locals = none := I6.free
      rw [cL] at z
      exact z
    refine ⟨I3.call' (ch := fp) I6.os I6.base I6.hok I6.bare fun b hb => ⟨(f3 b hb).1.2.2.2.1, (f3 b hb).1.2.1, (f3 b hb).1.2.2.2.2.1, (f3 b hb).1.2.2.2.2.2⟩, I3.fpOk (Nat.le_refl _) nC, ?_⟩
    obtain ⟨m, hn, _⟩ := I6.loc
    have hn : s'.heap.Ns ce.locals m := hn
    rw [cL] at hn
    exact ⟨m, hn⟩
  have hCs : s3.heap.objs.size ∉ frs X.stack := fun hm => by
    rcases List.mem_cons.mp (I3.stkSub _ hm) with z | z
    · exact absurd z (Nat.ne_of_gt I3.lt)
    · exact I3.nofs (Nat.le_refl _) z
  have pe' := pe (notedBy (model X.prog X.w) X.A ce (CompFails (model X.prog X.w) X.A X.xe ce)) (fun cls d H' => W cls d σ H') fun σ' pins' H' s' e s'' I' c => by
    obtain ⟨b1, b2, m, b3⟩ := back I'.unwish
    exact comp_out hst hfr cF cL tkW b1 b2 b3 hCs (fun _ _ _ z => z) c
  have loop : codeAny (model X.prog X.w) X.A (.compLoop (.DictComp kx vx [⟨tg, iter, ifs, 0⟩] scope pos) 0 (.ref it) (.ref D) ce) (compEnds (model X.prog X.w) X.A X.xe none (EP X pins σ Qv) (.ref D) ce) s4 := by
    refine compLoop_anyD (fun n s' => ∃ i H', Inv (X.blk s3 H3 scope ce fp) [] (wipe σ (own.map (·.2))) H' s' ∧ tn i s'.heap ∧ (∀ b ∈ fp, H' b = none) ∧ Wm i n H') ?_ m0 ⟨0, H3, I4, st4, nfp, w0⟩
    rintro n s5 ⟨i, H5, I5, st5, n5, w5⟩
    rcases turn i n H5 w5 with ⟨stop, qq⟩ | ⟨go, Nx, hNx, step⟩
    · have td := T.done (X.blk s3 H3 scope ce fp) rfl rfl rfl hc i [] s5 _ H5 (fun _ _ => False) I5 (stat I5 n5) st5 stop
      refine thnF td fun r s6 ⟨hr, I6⟩ => ?_
      subst hr
      obtain ⟨I7, fC, m, hn⟩ := back I6
      refine ⟨m, by rw [cL]; exact hn, fun h'' sb => ?_⟩
      rw [cL] at sb
      obtain ⟨f0, f1, fx, f3', f4, f5⟩ := fC
      exact ⟨.ref D, H5, I7.turned (t' := s6.toks) (fun b o hb e => (sb.2 b hb).trans e) f0 f1 f3' f4 f5, rfl, qq⟩
    · have ti := T.item (X.blk s3 H3 scope ce fp) rfl rfl rfl hc i [] s5 _ H5 (fun _ _ => False) I5 (stat I5 n5) st5 go
      refine thnF ti fun r s6 ⟨u, hr, h6⟩ => ?_
      subst hr
      refine thnF h6 fun _ s7 ⟨x, H7, I7, r7, y7, st7, n7⟩ => ?_
      have I7' := I7.pinned (stat I7 n7) (T.obj _ _ st7)
      refine thnF (pg.run _ s7 _ H7 x u _ I7' r7 (step x H7 y7)) fun _ s8 ⟨σ8, H8, I8, hw8, q8⟩ => ?_
      refine thnF (pt.run _ s8 σ8 H8 _ I8 q8) fun b s9 ⟨H9, I9, q9⟩ => ?_
      have fin : ∀ {s' : Shared} {H' : Hp}, Inv (X.blk s3 H3 scope ce fp) ([] ++ pinsAt fp s7.heap) σ8 H' s' → Nx H' → ∃ m, m < n ∧ ∃ i H', Inv (X.blk s3 H3 scope ce fp) [] (wipe σ (own.map (·.2))) H' s' ∧ tn i s'.heap ∧ (∀ b ∈ fp, H' b = none) ∧ Wm i m H' := fun {s' H'} I' nx => by
        obtain ⟨m', hm, w'⟩ := hNx H' nx
        have pin' : ∀ b ∈ fp, ∀ o, s7.heap.get? b = some o → s'.heap.get? b = some o ∧ H' b = none := fun b hb o e =>
          let z := I'.pin (b, o) (List.mem_append_right _ (List.mem_append_right _ (mem_pinsAt hb e)))
          ⟨z.1, z.2.1⟩
        have hl : (wipe σ (own.map (·.2))).length = σ8.length := by rw [← hw8, wipe_length]
        refine ⟨m', hm, i + 1, H', (I'.unpinned (pins := [])).weak hl (fun j v e => ?_), T.keep _ _ _ st7 fun b hb o e => (pin' b hb o e).1, fun b hb => ?_, w'⟩
        · rw [← hw8] at e
          exact (wipe_some e).1
        · obtain ⟨o, e, _⟩ := T.obj _ _ st7 b hb
          exact (pin' b hb o e).2
      cases b with
      | false =>
        simp only [Bool.false_eq_true, if_false] at q9 ⊢
        exact fin I9 q9
      | true =>
        simp only [if_true] at q9 ⊢
        refine thnF (pk.run _ s9 σ8 H9 _ I9 q9) fun z s10 ⟨yk, H10, I10, r10, q10⟩ => ?_
        refine wpAny_mono (pe'.run _ s10 σ8 H10 _ (I10.wish _) q10) (fun z2 s11 hz => ?_) fun _ _ z => z
        obtain ⟨yv, H11, I11, r11, kvs, k, ek, hD11, hz11, nx⟩ := hz
        subst ek
        exact d_dictSet (X := X.blk s3 H3 scope ce fp) I11.unwish hD11 hz11 r10 r11 fun s12 I12 => fin I12 nx
  exact codeAny_compStart_dict loop (T.self X.A 0 _ _ _ st4 loop)
end
end K15
namespace K15
open PySem PySem.Spec PyProof.Rows L2
local macro_rules | `(tactic| walk_at "con") => `(tactic| first | with_reducible refine Gx.conE K15.ks0 ?_ | with_reducible refine Gx.conE K15.ks1 ?_ | with_reducible refine Gx.conE K15.ks2 ?_ | with_reducible refine Gx.conE K15.ks3 ?_ | with_reducible refine Gx.conE K15.ks4 ?_ | with_reducible refine Gx.conE K15.ks5 ?_ | with_reducible refine Gx.conE K15.ks6 ?_ | with_reducible refine Gx.conE K15.ks7 ?_ | with_reducible refine Gx.conE K15.ks8 ?_ | with_reducible refine Gx.conE K15.ks9 ?_ | with_reducible refine Gx.conE K15.ks10 ?_ | with_reducible refine Gx.conE K15.ks11 ?_ | with_reducible refine Gx.conE K15.ks12 ?_ | with_reducible refine Gx.conE K15.ks13 ?_ | with_reducible refine Gx.conE K15.ks14 ?_ | with_reducible refine Gx.conE K15.ks15 ?_)
section
variable {P : Program} {w : World} {K : PySem.W.Frag} {mg : Str → Option Value} {base : Heap}
/-! ### sorted(d, reverse=b), d a dict with fewer than 64 keys, all ints -/
def rSortedDIR (b : Bool) : List V → List V → Hp → VK → Prop := fun vs zs H Q => ∃ (a : Addr) (kvs : List (Key × V)) (ks : List Int), vs = [V.ref a] ∧ zs = [.bl b] ∧ H a = some (.dK kvs) ∧ kvs.map (·.1) = ks.map Sum.inl ∧ ks.length < 64 ∧
  ∀ (ns' : List Int) (p : Addr), ns'.Perm ks → OrdB b ns' → H p = none → Q (.ref p) (upd H p (.lst (ns'.map V.int)))
theorem cr_sortedDIR {X : Cx} {b : Bool} (hcalm : X.calm = true) : CallRK X (.builtin "sorted") [Str.ofString "reverse"] (rSortedDIR b) := by
  intro pins s σ H xs zs us ws Q I r rz q
  obtain ⟨a, kvs, ks, rfl, rfl, hd, hks, h64, q⟩ := q
  obtain rfl := Vals.ref1 r
  obtain ⟨w1, rfl, e1⟩ := vals1 rz
  obtain rfl : w1 = Value.bool b := e1
  obtain ⟨z, lo, vs, rel, dd⟩ := dk_rd I.hok (show Rd H a (.dK kvs) from .inl hd)
  obtain ⟨ep, hat⟩ := dd.dictAt
  have hkeys : vs.map (·.1) = ks.map Sum.inl := rel.keys.symm.trans hks
  have hl : vs.length = ks.length := by
    have e := congrArg List.length hkeys
    rw [List.length_map, List.length_map] at e
    exact e
  have h16 : vs.length ≤ sizeLine := by rw [hl, sizeLine_eq]; omega
  refine PyProof.Rows.call_function_entry_kw PyProof.Rows.kind_sorted PyProof.Rows.plain_sorted PyProof.Rows.entry_sorted (PyProof.Rows.args_sorted_rev _ _) ?_
  unfold Builtin.«sorted»
  refine wpAny_bind (m := checkCount "sorted" 1 1 _) (wpAny_pure ?_)
  refine wpAny_bind (PySem.W.kdu_collect (A := X.A.in1) (PySem.W.kdl_dict (knd := mixKind X.prog X.w) (kvs := vs) (ep := ep) lo) (I.ok.hd hcalm) hat h16 fun h' tk acc hk hacc => ?_)
  have hal : acc.toList.length = ks.length := by rw [Array.length_toList, hacc.1, hl]
  have hS : IntsAre acc.toList ks := ints_each hal fun j v e => by
    obtain ⟨k, x, e1, e2⟩ := hacc.2 j v (by rw [← Array.getElem?_toList]; exact e)
    have e3 : (vs.map (·.1))[j]? = some k := by rw [List.getElem?_map, e1]; rfl
    rw [hkeys, List.getElem?_map] at e3
    cases e4 : ks[j]? with
    | none => rw [e4] at e3; cases e3
    | some y =>
      rw [e4] at e3
      have e5 : Sum.inl y = k := Option.some.inj e3
      subst e5
      rcases keyIs_shape (show keyIs (Sum.inl y) v = true from e2) with ⟨i, t, ek, ev⟩ | ⟨z, t, ek, ev⟩
      · cases ek
        exact ⟨y, t, rfl, ev⟩
      · cases ek
  have I1 : Inv X pins σ H { s with heap := h', toks := tk } := I.kept hk
  refine wpAny_bind (wpAny_newList ?_ (by rw [hal, sizeLine_eq]; omega))
  have hoL : (h'.push (seqObj "list" acc.toList.toArray 0)).get? h'.objs.size = some (seqObj "list" acc.toList.toArray 0) := Heap.get?_push_size _ rfl
  show wpAny _ _ _ _ _ { s with heap := h'.push (seqObj "list" acc.toList.toArray 0), toks := tk }
  refine wpAny_bind (wpAny_holding (wpAny_call_entry_kw PyProof.Rows.slot_list_sort ⟨_, hoL, rfl⟩ PyProof.Rows.entry_list_sort
    (SrtR.list_sort_ordR (s := { s with heap := h'.push (seqObj "list" acc.toList.toArray 0), toks := tk }) SrtO.swo_int hoL (by rw [hal, sizeLine_eq]; omega) (fun h2 => SrtO.ints_sortable hS h2) fun out h1 h2 => ⟨_, rfl, ?_⟩) (PyProof.Rows.args_list_sort_rev _ _)))
  obtain ⟨ns', k1, k2, k3⟩ := SrtR.ints_outR hS h1 h2
  obtain ⟨e', he'⟩ := PyProof.Rows.sortedHeap_at (vs := acc.toList) (out := if b = true then out.toArray.reverse else out.toArray) hoL
  have hlen : (ns'.map V.int).length ≤ sizeLine := by
    rw [List.length_map, k2.length_eq]
    exact Nat.le_trans (Nat.le_of_lt h64) (by decide)
  refine wpAny_pure ⟨_, rfl, .ref h'.objs.size, upd H h'.objs.size (.lst (ns'.map V.int)), I1.laid (t' := tk) (fun b u e => ?_) (Nat.le_refl _)
    (show ObjOk X.prog X.w _ _ _ (.lst (ns'.map V.int)) from ⟨hlen, (if b = true then out.toArray.reverse else out.toArray).toList, e', vals_of_ints k1, by rw [Array.toArray_toList]; exact he'⟩), rfl, q ns' _ k2 k3 (I1.hok.fresh (Nat.le_refl _))⟩
  have hb : b < h'.objs.size := Heap.lt_size e
  rw [PyProof.Rows.sortedHeap_old (Nat.ne_of_lt hb) (by rw [size_push']; exact Nat.lt_succ_of_lt hb)]
  exact Heap.get?_push_of_some _ e
end
end K15
namespace K15
open PySem PySem.Spec PyProof.Rows L2
local macro_rules | `(tactic| walk_at "con") => `(tactic| first | with_reducible refine Gx.conE K15.ks0 ?_ | with_reducible refine Gx.conE K15.ks1 ?_ | with_reducible refine Gx.conE K15.ks2 ?_ | with_reducible refine Gx.conE K15.ks3 ?_ | with_reducible refine Gx.conE K15.ks4 ?_ | with_reducible refine Gx.conE K15.ks5 ?_ | with_reducible refine Gx.conE K15.ks6 ?_ | with_reducible refine Gx.conE K15.ks7 ?_ | with_reducible refine Gx.conE K15.ks8 ?_ | with_reducible refine Gx.conE K15.ks9 ?_ | with_reducible refine Gx.conE K15.ks10 ?_ | with_reducible refine Gx.conE K15.ks11 ?_ | with_reducible refine Gx.conE K15.ks12 ?_ | with_reducible refine Gx.conE K15.ks13 ?_ | with_reducible refine Gx.conE K15.ks14 ?_ | with_reducible refine Gx.conE K15.ks15 ?_)
section
variable {P : Program} {w : World} {K : PySem.W.Frag} {mg : Str → Option Value} {base : Heap}
/-! ### for a, b in zip(text, tuple) -/
def ItzST (K : PySem.W.Frag) (z : Str) (b : Addr) : It :=
  ⟨fun i H => ∃ (ys : List V) (y : V), SqT K H b ys ∧ i < z.cps.size ∧ ys[i]? = some y,
    fun i H v H' => ∃ T c y, v = .ref T ∧ H T = none ∧ H' = upd H T (.tup [.str ⟨#[c]⟩, y]) ∧ z.cps[i]? = some c ∧ ∀ ys, SqT K H b ys → ys[i]? = some y,
    fun i H => ∃ ys : List V, SqT K H b ys ∧ i ≤ z.cps.size ∧ i ≤ ys.length ∧ (i = z.cps.size ∨ i = ys.length)⟩
theorem turn_zipST {P : Program} {w : World} {K : PySem.W.Frag} {elts : List Expr} {kk : Nat} {tpos : Pos} {z : Str} {t : Tok} {b Z TI TO i1 i2 : Addr} (S : ZipSep2 Z TI TO i1 i2 [i1] [i2, b]) (hne : b ≠ i2) :
    Turn P w K (.Tuple elts kk tpos) (ItzST K z b) [Z, TI, TO, i1, i2] Z (fun i h => IsZip h Z TI TO .none ∧ PySem.IsPair h TI (.ref i1) (.ref i2) ∧ (∃ x y, PySem.IsPair h TO x y) ∧ h.IsStrIter i1 (strIterType z) z t i ∧ h.IsTupleIter i2 b i) where
  mem := by simp
  obj := fun i h st c hc => by
    obtain ⟨hz, hTI, ⟨x, y, hTO⟩, ⟨o1, e1, _, d1⟩, ⟨o2, e2, _, d2⟩⟩ := st
    have e' : c = Z ∨ c = TI ∨ c = TO ∨ c = i1 ∨ c = i2 := by simpa using hc
    rcases e' with q | q | q | q | q
    · rw [q]; exact ⟨_, hz, fun v q => nomatch q⟩
    · rw [q]; exact ⟨_, hTI, fun v q => nomatch q⟩
    · rw [q]; exact ⟨_, hTO, fun v q => nomatch q⟩
    · rw [q]; exact ⟨o1, e1, fun v q => by rw [d1] at q; cases q⟩
    · rw [q]; exact ⟨o2, e2, fun v q => by rw [d2] at q; cases q⟩
  keep := fun i h h' st k => by
    obtain ⟨hz, hTI, ⟨x, y, hTO⟩, h1, h2⟩ := st
    exact ⟨k Z (by simp) _ hz, k TI (by simp) _ hTI, ⟨x, y, k TO (by simp) _ hTO⟩, (let ⟨o, e, r⟩ := h1; ⟨o, k i1 (by simp) o e, r⟩), h2.at fun o q => k i2 (by simp) o q⟩
  item := by
    intro X hP hw hK hc i pins s σ H E I hf st hg
    subst hP hw hK
    obtain ⟨hz, hTI, ⟨x0, y0, hTO⟩, h1, h2⟩ := st
    obtain ⟨ys, y, hqy, hlt, hy⟩ := hg
    obtain ⟨its2, rv2, p2, _⟩ := I.tuple hqy
    obtain ⟨u2, hu2, ru2⟩ := rv2.get hy
    have hh : X.A.in1.handled = none := I.ok.hd hc
    have hzl : Z < s.heap.objs.size := Heap.lt_size hz
    have hlt2 : i < its2.toArray.size := by
      have := (List.getElem?_eq_some_iff.mp hu2).1
      simpa using this
    refine wpAny_pyNext_zipD2_item S (Draws.text hh i1 z t) (Draws.tuple hh i2 b hne its2.toArray) hz hTI hTO h1 ⟨h2, p2⟩ hlt hlt2 fun x1 x2 h' tk y1 y2 z' TO' s1' s2' hT hsz hk => ?_
    obtain ⟨c, u, hcp, rfl⟩ := y1
    have hx2 : x2 = u2 := by
      have e : its2[i]? = some x2 := by simpa using y2
      rw [hu2] at e
      exact (Option.some.inj e).symm
    subst hx2
    refine ⟨_, rfl, wpAny_letOwnedTupleGo_zip (s := { s with heap := h', toks := tk }) z' fun h'' z'' sb => ?_⟩
    have hT2 : h''.get? s.heap.objs.size = some { cls := .type "tuple", data := .seq #[.str ⟨#[c]⟩ u, x2] } := (sb.2 _ (Nat.ne_of_gt hzl)).trans hT
    have new : ObjOk X.prog X.w (upd H s.heap.objs.size (.tup [.str ⟨#[c]⟩, y])) h'' s.heap.objs.size (.tup [.str ⟨#[c]⟩, y]) :=
      ⟨by show 2 ≤ sizeLine; decide, [.str ⟨#[c]⟩ u, x2], .cons ⟨u, rfl⟩ (.cons ru2 .nil), ⟨_, hT2, rfl, _, rfl⟩⟩
    have I1 : Inv X pins σ (upd H s.heap.objs.size (.tup [.str ⟨#[c]⟩, y])) { s with heap := h'', toks := tk } :=
      I.turnedNew (t' := tk) (ch := [Z, TI, TO, i1, i2]) (fun c o hb q => (sb.2 c (fun q' => hb (by simp [q']))).trans (hk c o (fun q' => hb (by simp [q'])) (fun q' => hb (by simp [q'])) (fun q' => hb (by simp [q'])) (fun q' => hb (by simp [q'])) q)) hf (Nat.le_refl _) new
    have zi1 : i1 ≠ Z := Ne.symm S.zi1
    have zi2 : i2 ≠ Z := Ne.symm S.zi2
    refine ⟨.ref s.heap.objs.size, _, I1, rfl, ⟨_, c, y, rfl, I.hok.fresh (Nat.le_refl _), rfl, hcp, fun l hl => by rw [I.tuple_inj hl hqy]; exact hy⟩, ⟨z'', ?_, ⟨.str ⟨#[c]⟩ u, x2, ?_⟩, ?_, ?_⟩, fun c' hcm => ?_⟩
    · exact (sb.2 _ S.TIz).trans (hk _ _ S.TIz S.TITO S.TIi1 S.TIi2 hTI)
    · exact (sb.2 _ S.TOz).trans TO'
    · obtain ⟨o, e, r⟩ := s1'
      exact ⟨o, (sb.2 _ zi1).trans e, r⟩
    · exact s2'.1.at fun o q => (sb.2 _ zi2).trans q
    · have hlt : c' < s.heap.objs.size := by
        have e' : c' = Z ∨ c' = TI ∨ c' = TO ∨ c' = i1 ∨ c' = i2 := by simpa using hcm
        rcases e' with q | q | q | q | q
        · rw [q]; exact hzl
        · rw [q]; exact Heap.lt_size hTI
        · rw [q]; exact Heap.lt_size hTO
        · rw [q]; obtain ⟨_, e1, _⟩ := h1; exact Heap.lt_size e1
        · rw [q]; obtain ⟨_, e2, _⟩ := h2; exact Heap.lt_size e2
      rw [upd_ne (Nat.ne_of_lt hlt)]
      exact (hf c' hcm).1
  done := by
    intro X hP hw hK hc i pins s σ H E I hf st hg
    subst hP hw hK
    obtain ⟨hz, hTI, ⟨x0, y0, hTO⟩, h1, h2⟩ := st
    obtain ⟨ys, hqy, hle1, hle2, hend⟩ := hg
    obtain ⟨its2, rv2, p2, _⟩ := I.tuple hqy
    have l2 := rv2.length
    have hh : X.A.in1.handled = none := I.ok.hd hc
    refine wpAny_pyNext_zipD2_end S (Draws.text hh i1 z t) (Draws.tuple hh i2 b hne its2.toArray) hz hTI hTO h1 ⟨h2, p2⟩ hle1 (by simp; omega) (by simp; omega) fun h' tk hk => ⟨rfl, I.turnedL (t' := tk) (ch := [Z, TI, TO, i1, i2]) (fun c o hb q =>
      hk c o (fun q' => hb (by simp [q'])) (fun q' => hb (by simp [q'])) (fun q' => hb (by simp [q'])) (fun q' => hb (by simp [q'])) q) hf⟩
  self := fun A i s Q E st h => wpAny_pyIter_zip st.1 h
def iZipST (K : PySem.W.Frag) (ta : TA) : TI := fun σ H R => ta σ H fun vs H1 => ∃ z b ys, vs = [.str z, .ref b] ∧ SqT K H1 b ys ∧ R (ItzST K z b) H1
theorem pi_zipST {X : Cx} {e e2 : Expr} {ta : TA} {p pos tpos : Pos} {elts : List Expr} {kk : Nat} (hg : Gl X "zip") (hm : X.mg "zip" = none) (ha : PA X [e, e2] ta)
    (hs : starEach [e, e2] X.env = (false, eval e X.env) :: starEach [e2] X.env := by rfl) (hpl : (backTo pos (starEach [e2] X.env)).any (·.1) = false := by rfl) :
    PI X (.Tuple elts kk tpos) (.Call (.Name "zip" p) [e, e2] [] pos) (iZipST X.K ta) := by
  refine ⟨fun pins s σ H R I h => ?_⟩
  refine Call_ (ld_blt I hg hm PyProof.Rows.boot_zip (PyProof.Rows.callWith_type1 (thn (ha.run pos pins s σ H _ I h) fun us s1 ⟨vs, H1, I1, r1, q1⟩ => ?_) hs hpl))
  obtain ⟨z, b, ys, rfl, hqy, q⟩ := q1
  obtain ⟨v1, v2, rfl, r, r'⟩ := vals2 r1
  obtain ⟨t, rfl⟩ := r
  cases (show v2 = Value.ref b from r')
  obtain ⟨its2, rv2, p2, _⟩ := I1.tuple hqy
  obtain ⟨o2, ho2, _⟩ := id p2
  have hbl : b < s1.heap.objs.size := Heap.lt_size ho2
  have fresh5 : ∀ c, c ∈ [s1.heap.objs.size + 4, s1.heap.objs.size + 2, s1.heap.objs.size + 3, s1.heap.objs.size, s1.heap.objs.size + 1] → FpOk X pins H1 c := fun c hcm => by
    have e' : c = s1.heap.objs.size + 4 ∨ c = s1.heap.objs.size + 2 ∨ c = s1.heap.objs.size + 3 ∨ c = s1.heap.objs.size ∨ c = s1.heap.objs.size + 1 := by simpa using hcm
    have hle : s1.heap.objs.size ≤ c := by
      rcases e' with z | z | z | z | z
      · rw [z]; exact Nat.le_add_right _ _
      · rw [z]; exact Nat.le_add_right _ _
      · rw [z]; exact Nat.le_add_right _ _
      · rw [z]; exact Nat.le_refl _
      · rw [z]; exact Nat.le_add_right _ _
    exact I1.fpOk hle (I1.hok.fresh hle)
  refine zip_begins2 (begins_text z t) (begins_tuple b its2.toArray) trivial p2 fun h' hz hTI hTO g1 g2 hsz hk => wpAny_pyIter_zip hz ?_
  have I2 : Inv X pins σ H1 { s1 with heap := h' } := I1.kept (t' := s1.toks) hk
  have S : ZipSep2 (s1.heap.objs.size + 4) (s1.heap.objs.size + 2) (s1.heap.objs.size + 3) s1.heap.objs.size (s1.heap.objs.size + 1) [s1.heap.objs.size] [s1.heap.objs.size + 1, b] := zip_sep2 (fun _ hb => (by cases hb)) (fun c hc => by rw [List.mem_singleton.mp hc]; exact hbl)
  exact ⟨s1.heap.objs.size + 4, [s1.heap.objs.size + 4, s1.heap.objs.size + 2, s1.heap.objs.size + 3, s1.heap.objs.size, s1.heap.objs.size + 1], _, _, H1, rfl, I2, turn_zipST (t := t) S (Nat.ne_of_lt (Nat.lt_succ_of_lt hbl)), ⟨hz, hTI, ⟨_, _, hTO⟩, ⟨_, g1, rfl, rfl⟩, ⟨_, g2, rfl, rfl⟩⟩, fresh5, q⟩
/-- a loop over zip of a text and a tuple of one length -/
theorem for_zipST {K : PySem.W.Frag} {b : Addr} {l : List Nat} {ys : List V} {g : TG} {tb : TS} {D : Ends} {σ : L2.St} {H : Hp} (hl : l.length = ys.length) (Pv : Nat → L2.St → Hp → Prop) (h0 : Pv 0 σ H) (hq : ∀ i σ H, Pv i σ H → SqT K H b ys)
    (hs : ∀ (i c : Nat) (y : V) (T : Addr) (σ : L2.St) (H : Hp), l[i]? = some c → ys[i]? = some y → Pv i σ H → H T = none → g (.ref T) σ (upd H T (.tup [.str (Gx.mkS [c]), y])) fun σ2 H2 => tb { D with nx := Pv (i + 1), ct := Pv (i + 1), bk := D.nx } σ2 H2) (hd : ∀ σ H, Pv l.length σ H → D.nx σ H) :
    ∃ W : Nat → Nat → L2.St → Hp → Prop, (∃ m, W 0 m σ H) ∧ ∀ i m σ H, W i m σ H →
      ((ItzST K (Gx.mkS l) b).stop i H ∧ D.nx σ H) ∨ ((ItzST K (Gx.mkS l) b).go i H ∧ ∃ N : L2.St → Hp → Prop, (∀ σ' H', N σ' H' → ∃ m', m' < m ∧ W (i + 1) m' σ' H') ∧ ∀ v H', (ItzST K (Gx.mkS l) b).yld i H v H' → g v σ H' fun σ2 H2 => tb { D with nx := N, ct := N, bk := D.nx } σ2 H2) := by
  have hz : (Gx.mkS l).cps.size = l.length := by simp [Gx.mkS]
  refine ⟨fun i m σ H => m = l.length - i ∧ i ≤ l.length ∧ Pv i σ H, ⟨l.length, rfl, Nat.zero_le _, h0⟩, ?_⟩
  rintro i m σ H ⟨rfl, hi, p⟩
  have qy := hq i σ H p
  by_cases hlt : i < l.length
  · have hlt2 : i < ys.length := by omega
    have hy : ys[i]? = some ys[i] := List.getElem?_eq_getElem hlt2
    refine .inr ⟨⟨ys, _, qy, by rw [hz]; exact hlt, hy⟩, Pv (i + 1), fun σ' H' p' => ⟨l.length - (i + 1), by omega, rfl, hlt, p'⟩, fun v H' y => ?_⟩
    obtain ⟨T, c, y', rfl, hT, rfl, f1, f2⟩ := y
    exact hs i c y' T σ H (by simpa [Gx.mkS] using f1) (f2 ys qy) p hT
  · have e : i = l.length := by omega
    subst e
    exact .inl ⟨⟨ys, qy, by rw [hz]; exact Nat.le_refl _, by omega, .inl hz.symm⟩, hd σ H p⟩
end
end K15
namespace K15
open PySem PySem.Spec PyProof.Rows L2
local macro_rules | `(tactic| walk_at "con") => `(tactic| first | with_reducible refine Gx.conE K15.ks0 ?_ | with_reducible refine Gx.conE K15.ks1 ?_ | with_reducible refine Gx.conE K15.ks2 ?_ | with_reducible refine Gx.conE K15.ks3 ?_ | with_reducible refine Gx.conE K15.ks4 ?_ | with_reducible refine Gx.conE K15.ks5 ?_ | with_reducible refine Gx.conE K15.ks6 ?_ | with_reducible refine Gx.conE K15.ks7 ?_ | with_reducible refine Gx.conE K15.ks8 ?_ | with_reducible refine Gx.conE K15.ks9 ?_ | with_reducible refine Gx.conE K15.ks10 ?_ | with_reducible refine Gx.conE K15.ks11 ?_ | with_reducible refine Gx.conE K15.ks12 ?_ | with_reducible refine Gx.conE K15.ks13 ?_ | with_reducible refine Gx.conE K15.ks14 ?_ | with_reducible refine Gx.conE K15.ks15 ?_)
section
variable {P : Program} {w : World} {K : PySem.W.Frag} {mg : Str → Option Value} {base : Heap}
/-! ### patterns with their size, and the equations solved -/
inductive PP where
  | e
  | one (l : List Nat)
  | star (p : PP)
  | seq (p q : PP)
  | alt (p q : PP)
  deriving DecidableEq
def PP.size : PP → Nat
  | .e => 1
  | .one _ => 1
  | .star p => 1 + p.size
  | .seq p q => 1 + p.size + q.size
  | .alt p q => 1 + p.size + q.size
theorem PP.size_pos (p : PP) : 1 ≤ p.size := by cases p <;> simp [PP.size] <;> omega
def PP.depth : PP → Nat
  | .e => 1
  | .one _ => 1
  | .star p => p.depth + 1
  | .seq p q => max p.depth q.depth + 1
  | .alt p q => max p.depth q.depth + 1
def inF (a b : PP) : PP := if b = .e then a else .seq a b
def addO (o : Option PP) (b : PP) : PP := match o with
  | none => b
  | some a => .alt a b
theorem inF_left (a b : PP) : a.size ≤ (inF a b).size := by
  unfold inF
  split
  · exact Nat.le_refl _
  · simp only [PP.size]; omega
theorem inF_right (a b : PP) : b.size ≤ (inF a b).size := by
  unfold inF
  split
  · rename_i h
    subst h
    exact PP.size_pos a
  · simp only [PP.size]; omega
theorem addO_right (o : Option PP) (b : PP) : b.size ≤ (addO o b).size := by
  cases o with
  | none => exact Nat.le_refl _
  | some a => simp only [addO, PP.size]; omega
theorem addO_left {o : Option PP} {a : PP} (b : PP) (h : o = some a) : a.size ≤ (addO o b).size := by
  subst h
  simp only [addO, PP.size]
  omega
/-- what one state's equation says: a part for each target, -1 for the end -/
abbrev Eqn := Int → Option PP
/-- the loop of s is put in front -/
def solve1 (E : Eqn) (s : Int) : Eqn := match E s with
  | none => E
  | some l => fun t => if t = s then none else (E t).map (inF (.star l))
/-- what is known of e when k is put in -/
def stepE (Ke T : Eqn) (k : Int) : Eqn := match Ke k with
  | none => Ke
  | some f => fun t => if t = k then none else match T t with
    | none => Ke t
    | some p => some (addO (Ke t) (inF f p))
/-- k is put into all before it -/
def stepK (Ks : Nat → Eqn) (k : Nat) : Nat → Eqn := fun e => if e < k then stepE (Ks e) (solve1 (Ks k) k) k else Ks e
/-- what is known when the states n - 1 .. k have been put in -/
def knownAt (Ks : Nat → Eqn) (n : Nat) : Nat → (Nat → Eqn)
  | 0 => Ks
  | j + 1 => stepK (knownAt Ks n j) (n - 1 - j)
/-- the states before k, in front of each the edges that are left -/
inductive Rch (K : Nat → Eqn) : Nat → Prop
  | base : Rch K 0
  | step {a b : Nat} : Rch K a → (K a b).isSome → Rch K b
inductive Cor (K : Nat → Eqn) : Nat → Prop
  | base {a : Nat} : (K a (-1)).isSome → Cor K a
  | step {a b : Nat} : (K a b).isSome → Cor K b → Cor K a
theorem solve1_self (E : Eqn) (s : Int) : solve1 E s s = none := by
  unfold solve1
  cases h : E s with
  | none => exact h
  | some l => simp
theorem solve1_some {E : Eqn} {s t : Int} {p : PP} (h : E t = some p) (ht : t ≠ s) : ∃ q, solve1 E s t = some q ∧ p.size ≤ q.size ∧ ∀ l, E s = some l → (PP.star l).size ≤ q.size := by
  unfold solve1
  cases hs : E s with
  | none => exact ⟨p, h, Nat.le_refl _, fun l z => nomatch z⟩
  | some l =>
    refine ⟨inF (.star l) p, ?_, inF_right _ _, fun l' z => ?_⟩
    · show (if t = s then none else (E t).map (inF (.star l))) = _
      rw [if_neg ht, h]
      rfl
    · cases z
      exact inF_left _ _
theorem solve1_from {E : Eqn} {s t : Int} {q : PP} (h : solve1 E s t = some q) : t ≠ s ∧ ∃ p, E t = some p ∧ (q = p ∨ ∃ l, E s = some l ∧ q = inF (.star l) p) := by
  have hne : t ≠ s := fun z => by rw [z, solve1_self] at h; cases h
  refine ⟨hne, ?_⟩
  unfold solve1 at h
  cases hs : E s with
  | none => rw [hs] at h; exact ⟨q, h, .inl rfl⟩
  | some l =>
    rw [hs] at h
    dsimp only at h
    rw [if_neg hne] at h
    obtain ⟨p, h1, h2⟩ := Option.map_eq_some_iff.mp h
    exact ⟨p, h1, .inr ⟨l, rfl, h2.symm⟩⟩
theorem stepE_keep {Ke T : Eqn} {k t : Int} {p : PP} (h : Ke t = some p) (ht : t ≠ k) : ∃ q, stepE Ke T k t = some q ∧ p.size ≤ q.size := by
  unfold stepE
  cases hk : Ke k with
  | none => exact ⟨p, h, Nat.le_refl _⟩
  | some f =>
    dsimp only
    rw [if_neg ht]
    cases T t with
    | none => exact ⟨p, h, Nat.le_refl _⟩
    | some r => exact ⟨_, rfl, addO_left _ h⟩
theorem stepE_new {Ke T : Eqn} {k t : Int} {f p : PP} (hk : Ke k = some f) (h : T t = some p) (ht : t ≠ k) : stepE Ke T k t = some (addO (Ke t) (inF f p)) := by
  unfold stepE
  rw [hk]
  dsimp only
  rw [if_neg ht, h]
theorem stepK_lt {Ks : Nat → Eqn} {k e : Nat} (h : e < k) : stepK Ks k e = stepE (Ks e) (solve1 (Ks k) k) k := if_pos h
/-- the targets that states up to k know: -1, and states up to k -/
def Low (K : Nat → Eqn) (k : Nat) : Prop := ∀ e, e ≤ k → ∀ t p, K e t = some p → -1 ≤ t ∧ t ≤ (k : Int)
theorem Low.step {K : Nat → Eqn} {k : Nat} (h : Low K (k + 1)) : Low (stepK K (k + 1)) k := fun e he t p hp => by
  rw [stepK_lt (show e < k + 1 by omega)] at hp
  have main : (∃ q, K e t = some q) ∨ (∃ q, solve1 (K (k + 1)) ((k + 1 : Nat) : Int) t = some q) → t ≠ ((k + 1 : Nat) : Int) → -1 ≤ t ∧ t ≤ (k : Int) := fun z hne => by
    rcases z with ⟨q, hq⟩ | ⟨q, hq⟩
    · have := h e (by omega) t q hq
      omega
    · obtain ⟨_, p', hp', _⟩ := solve1_from hq
      have := h (k + 1) (Nat.le_refl _) t p' hp'
      omega
  unfold stepE at hp
  cases hk : K e ((k + 1 : Nat) : Int) with
  | none =>
    rw [hk] at hp
    dsimp only at hp
    refine main (.inl ⟨p, hp⟩) fun z => ?_
    rw [z, hk] at hp
    cases hp
  | some f =>
    rw [hk] at hp
    dsimp only at hp
    by_cases hne : t = ((k + 1 : Nat) : Int)
    · rw [if_pos hne] at hp; cases hp
    · rw [if_neg hne] at hp
      cases hT : solve1 (K (k + 1)) ((k + 1 : Nat) : Int) t with
      | none => rw [hT] at hp; exact main (.inl ⟨p, hp⟩) hne
      | some q => exact main (.inr ⟨q, hT⟩) hne
section
variable {K : Nat → Eqn} {k : Nat}
theorem Rch.le (hlow : Low K k) {s : Nat} (h : Rch K s) : s ≤ k := by
  induction h with
  | base => exact Nat.zero_le _
  | step _ e ih =>
    obtain ⟨p, hp⟩ := Option.isSome_iff_exists.mp e
    have := hlow _ ih _ _ hp
    omega
theorem Rch.step' (hlow : Low K (k + 1)) {s : Nat} (h : Rch K s) : (s ≠ k + 1 → Rch (stepK K (k + 1)) s) ∧ (s = k + 1 → ∃ a, a < k + 1 ∧ Rch (stepK K (k + 1)) a ∧ (K a ((k + 1 : Nat) : Int)).isSome) := by
  induction h with
  | base => exact ⟨fun _ => .base, fun h => by omega⟩
  | @step a b ha e ih =>
    have hak := Rch.le hlow ha
    obtain ⟨p, hp⟩ := Option.isSome_iff_exists.mp e
    by_cases hb : b = k + 1
    · subst hb
      refine ⟨fun z => absurd rfl z, fun _ => ?_⟩
      by_cases h : a = k + 1
      · exact ih.2 h
      · exact ⟨a, by omega, ih.1 h, e⟩
    · refine ⟨fun _ => ?_, fun z => absurd z hb⟩
      have hbi : (b : Int) ≠ ((k + 1 : Nat) : Int) := by omega
      by_cases h : a = k + 1
      · obtain ⟨a', h1, h2, h3⟩ := ih.2 h
        subst h
        obtain ⟨f, hf⟩ := Option.isSome_iff_exists.mp h3
        obtain ⟨q, hq, _⟩ := solve1_some hp hbi
        refine .step h2 ?_
        rw [stepK_lt h1, stepE_new hf hq hbi]
        rfl
      · refine .step (ih.1 h) ?_
        rw [stepK_lt (by omega)]
        obtain ⟨q, hq, _⟩ := stepE_keep (T := solve1 (K (k + 1)) ((k + 1 : Nat) : Int)) hp hbi
        rw [hq]
        rfl
theorem Cor.step' (hlow : Low K (k + 1)) {s : Nat} (h : Cor K s) : s ≤ k + 1 → (s ≠ k + 1 → Cor (stepK K (k + 1)) s) ∧ (s = k + 1 → ∃ t q, solve1 (K (k + 1)) ((k + 1 : Nat) : Int) t = some q ∧ (t = -1 ∨ ∃ b : Nat, t = (b : Int) ∧ b < k + 1 ∧ Cor (stepK K (k + 1)) b)) := by
  induction h with
  | @base a e =>
    intro ha
    obtain ⟨p, hp⟩ := Option.isSome_iff_exists.mp e
    have hne : (-1 : Int) ≠ ((k + 1 : Nat) : Int) := by omega
    refine ⟨fun h => ?_, fun h => ?_⟩
    · refine .base ?_
      rw [stepK_lt (by omega)]
      obtain ⟨q, hq, _⟩ := stepE_keep (T := solve1 (K (k + 1)) ((k + 1 : Nat) : Int)) hp hne
      rw [hq]
      rfl
    · subst h
      obtain ⟨q, hq, _⟩ := solve1_some hp hne
      exact ⟨-1, q, hq, .inl rfl⟩
  | @step a b e hb ih =>
    intro ha
    obtain ⟨p, hp⟩ := Option.isSome_iff_exists.mp e
    have hbk := (hlow a ha _ _ hp).2
    have ih := ih (by omega)
    by_cases hbe : b = k + 1
    · obtain ⟨t, q, hq, ht⟩ := ih.2 hbe
      refine ⟨fun h => ?_, fun h => ⟨t, q, hq, ht⟩⟩
      subst hbe
      have htne := (solve1_from hq).1
      have hlt : a < k + 1 := by clear ht htne hq hp ih; omega
      have hs : stepK K (k + 1) a t = some (addO (K a t) (inF p q)) := by rw [stepK_lt hlt, stepE_new hp hq htne]
      rcases ht with rfl | ⟨b', rfl, h1, h2⟩
      · exact .base (by rw [hs]; rfl)
      · exact .step (by rw [hs]; rfl) h2
    · have hbi : (b : Int) ≠ ((k + 1 : Nat) : Int) := by omega
      refine ⟨fun h => ?_, fun h => ?_⟩
      · refine .step ?_ (ih.1 hbe)
        rw [stepK_lt (by omega)]
        obtain ⟨q, hq, _⟩ := stepE_keep (T := solve1 (K (k + 1)) ((k + 1 : Nat) : Int)) hp hbi
        rw [hq]
        rfl
      · subst h
        obtain ⟨q, hq, _⟩ := solve1_some hp hbi
        exact ⟨b, q, hq, .inr ⟨b, rfl, by omega, ih.1 hbe⟩⟩
end
def Bnd (K : Nat → Eqn) (k B : Nat) : Prop := ∀ e, e ≤ k → ∀ t p, K e t = some p → p.size ≤ B
/-- nothing that is made when k is put in is greater than B -/
structure MadeB (K : Nat → Eqn) (k B : Nat) : Prop where
  here : Bnd K k B
  loop : ∀ l, K k k = some l → (PP.star l).size ≤ B
  slv : ∀ t q, solve1 (K k) k t = some q → q.size ≤ B
  put : ∀ e, e < k → ∀ f, K e k = some f → ∀ t q, solve1 (K k) k t = some q → (inF f q).size ≤ B ∧ (addO (K e t) (inF f q)).size ≤ B
theorem made_back {K : Nat → Eqn} {k B : Nat} (hlow : Low K (k + 1)) (h : (Rch K (k + 1) ∧ Cor K (k + 1)) ∨ ((∀ t, K (k + 1) t = none) ∧ ∀ e, e ≤ k → K e ((k + 1 : Nat) : Int) = none)) (b : Bnd (stepK K (k + 1)) k B) : MadeB K (k + 1) B := by
  rcases h with ⟨hr, hc⟩ | ⟨h1, h2⟩
  · obtain ⟨a, ha, _, hae⟩ := (Rch.step' hlow hr).2 rfl
    obtain ⟨f0, hf0⟩ := Option.isSome_iff_exists.mp hae
    obtain ⟨t0, q0, hq0, _⟩ := (Cor.step' hlow hc (Nat.le_refl _)).2 rfl
    have put : ∀ e, e < k + 1 → ∀ f, K e ((k + 1 : Nat) : Int) = some f → ∀ t q, solve1 (K (k + 1)) ((k + 1 : Nat) : Int) t = some q → (inF f q).size ≤ B ∧ (addO (K e t) (inF f q)).size ≤ B := fun e he f hf t q hq => by
      have htne := (solve1_from hq).1
      have := b e (by omega) t _ (by rw [stepK_lt he, stepE_new hf hq htne])
      exact ⟨Nat.le_trans (addO_right _ _) this, this⟩
    have slv : ∀ t q, solve1 (K (k + 1)) ((k + 1 : Nat) : Int) t = some q → q.size ≤ B := fun t q hq => Nat.le_trans (inF_right _ _) (put a ha f0 hf0 t q hq).1
    have loop : ∀ l, K (k + 1) ((k + 1 : Nat) : Int) = some l → (PP.star l).size ≤ B := fun l hl => by
      obtain ⟨hne, p, hp, _⟩ := solve1_from hq0
      obtain ⟨q, hq, _, hs⟩ := solve1_some hp hne
      exact Nat.le_trans (hs l hl) (slv _ _ hq)
    refine ⟨fun e he t p hp => ?_, loop, slv, put⟩
    by_cases hk : e = k + 1
    · subst hk
      by_cases ht : t = ((k + 1 : Nat) : Int)
      · subst ht
        have := loop p hp
        simp only [PP.size] at this
        omega
      · obtain ⟨q, hq, hle, _⟩ := solve1_some hp ht
        exact Nat.le_trans hle (slv t q hq)
    · by_cases ht : t = ((k + 1 : Nat) : Int)
      · subst ht
        exact Nat.le_trans (inF_left _ _) (put e (by omega) p hp t0 q0 hq0).1
      · obtain ⟨q, hq, hle⟩ := stepE_keep (T := solve1 (K (k + 1)) ((k + 1 : Nat) : Int)) hp ht
        exact Nat.le_trans hle (b e (by omega) t q (by rw [stepK_lt (by omega)]; exact hq))
  · have hs : ∀ t, solve1 (K (k + 1)) ((k + 1 : Nat) : Int) t = none := fun t => by
      unfold solve1
      rw [h1]
      exact h1 t
    refine ⟨fun e he t p hp => ?_, (fun l hl => by rw [h1] at hl; cases hl), (fun t q hq => by rw [hs] at hq; cases hq), fun e he f hf => by rw [h2 e (by omega)] at hf; cases hf⟩
    by_cases hk : e = k + 1
    · subst hk
      rw [h1] at hp
      cases hp
    · refine b e (by omega) t p ?_
      rw [stepK_lt (by omega)]
      unfold stepE
      rw [h2 e (by omega)]
      exact hp
theorem cor0 {K : Nat → Eqn} (hlow : Low K 0) {s : Nat} (h : Cor K s) : s = 0 → (K 0 (-1)).isSome := by
  induction h with
  | base e => exact fun z => by subst z; exact e
  | @step a b e _ ih =>
    intro z
    subst z
    obtain ⟨p, hp⟩ := Option.isSome_iff_exists.mp e
    have := hlow 0 (Nat.le_refl _) _ _ hp
    exact ih (by omega)
theorem made_0 {K : Nat → Eqn} (hlow : Low K 0) {f : PP} (h : solve1 (K 0) 0 (-1) = some f) : MadeB K 0 f.size := by
  have h : solve1 (K 0) ((0 : Nat) : Int) (-1) = some f := h
  obtain ⟨_, p0, hp0, _⟩ := solve1_from h
  obtain ⟨q0, hq0, hle0, hs0⟩ := solve1_some hp0 (show (-1 : Int) ≠ ((0 : Nat) : Int) by omega)
  have e0 : q0 = f := by
    rw [h] at hq0
    exact (Option.some.inj hq0).symm
  rw [e0] at hle0 hs0
  refine ⟨fun e he t p hp => ?_, fun l hl => hs0 l hl, fun t q hq => ?_, fun e he => by omega⟩
  · have e1 : e = 0 := by omega
    subst e1
    have := hlow 0 (Nat.le_refl _) t p hp
    by_cases ht : t = -1
    · subst ht
      rw [hp0] at hp
      cases hp
      exact hle0
    · have e2 : t = ((0 : Nat) : Int) := by omega
      subst e2
      have := hs0 p hp
      simp only [PP.size] at this
      omega
  · obtain ⟨hne, p, hp, _⟩ := solve1_from hq
    have := hlow 0 (Nat.le_refl _) t p hp
    have e2 : t = -1 := by omega
    subst e2
    rw [h] at hq
    cases hq
    exact Nat.le_refl _
/-- what holds at the start: states 0 .. n - 1, the dead one in no equation, all others reached and ending -/
structure Start (Ks : Nat → Eqn) (n : Nat) (dead : Nat → Prop) : Prop where
  low : Low Ks (n - 1)
  off : ∀ d, dead d → (∀ t, Ks d t = none) ∧ ∀ e, Ks e d = none
  on : ∀ s, s < n → ¬ dead s → Rch Ks s ∧ Cor Ks s
theorem off_step {K : Nat → Eqn} {k d : Nat} (h : (∀ t, K d t = none) ∧ ∀ e, K e d = none) : (∀ t, stepK K k d t = none) ∧ ∀ e, stepK K k e d = none := by
  have hs : solve1 (K k) k d = none := by
    by_cases hk : (d : Int) = (k : Int)
    · rw [hk]; exact solve1_self _ _
    · cases hT : solve1 (K k) k d with
      | none => rfl
      | some q =>
        obtain ⟨_, p, hp, _⟩ := solve1_from hT
        rw [h.2 k] at hp
        cases hp
  refine ⟨fun t => ?_, fun e => ?_⟩
  · unfold stepK
    split
    · unfold stepE
      rw [h.1 k]
      exact h.1 t
    · exact h.1 t
  · unfold stepK
    split
    · unfold stepE
      cases K e k with
      | none => exact h.2 e
      | some f =>
        dsimp only
        split
        · rfl
        · rw [hs]
          exact h.2 e
    · exact h.2 e
theorem start_at {Ks : Nat → Eqn} {n : Nat} {dead : Nat → Prop} (h : Start Ks n dead) : ∀ j, j < n → Low (knownAt Ks n j) (n - 1 - j) ∧ (∀ d, dead d → (∀ t, knownAt Ks n j d t = none) ∧ ∀ e, knownAt Ks n j e d = none) ∧ ∀ s, s ≤ n - 1 - j → ¬ dead s → Rch (knownAt Ks n j) s ∧ Cor (knownAt Ks n j) s
  | 0, hj => ⟨h.low, h.off, fun s hs hd => h.on s (by omega) hd⟩
  | j + 1, hj => by
    obtain ⟨h1, h2, h3⟩ := start_at h j (by omega)
    obtain ⟨k, hk⟩ : ∃ k, n - 1 - j = k + 1 := ⟨n - 1 - j - 1, by omega⟩
    have hk2 : n - 1 - (j + 1) = k := by omega
    rw [hk] at h1 h3
    rw [hk2]
    show Low (stepK (knownAt Ks n j) (n - 1 - j)) k ∧ (∀ d, dead d → (∀ t, stepK (knownAt Ks n j) (n - 1 - j) d t = none) ∧ ∀ e, stepK (knownAt Ks n j) (n - 1 - j) e d = none) ∧ ∀ s, s ≤ k → ¬ dead s → Rch (stepK (knownAt Ks n j) (n - 1 - j)) s ∧ Cor (stepK (knownAt Ks n j) (n - 1 - j)) s
    rw [hk]
    refine ⟨h1.step, fun d hd => off_step (h2 d hd), fun s hs hd => ?_⟩
    obtain ⟨r, c⟩ := h3 s (by omega) hd
    exact ⟨(Rch.step' h1 r).1 (by omega), (Cor.step' h1 c (by omega)).1 (by omega)⟩
theorem made_all {Ks : Nat → Eqn} {n : Nat} {dead : Nat → Prop} (h : Start Ks n dead) (hn : 0 < n) (h0 : ¬ dead 0) : ∃ F, solve1 (knownAt Ks n (n - 1) 0) 0 (-1) = some F ∧ ∀ i, i < n → MadeB (knownAt Ks n (n - 1 - i)) i F.size := by
  have last := start_at h (n - 1) (by omega)
  rw [show n - 1 - (n - 1) = 0 by omega] at last
  obtain ⟨l1, _, l3⟩ := last
  obtain ⟨p, hp⟩ := Option.isSome_iff_exists.mp (cor0 l1 (l3 0 (Nat.le_refl _) h0).2 rfl)
  obtain ⟨F, hF, _⟩ := solve1_some hp (show (-1 : Int) ≠ ((0 : Nat) : Int) by omega)
  refine ⟨F, hF, fun i => ?_⟩
  induction i with
  | zero => exact fun _ => made_0 l1 hF
  | succ i ih =>
    intro hi
    have b := (ih (by omega)).here
    obtain ⟨h1, h2, h3⟩ := start_at h (n - 1 - (i + 1)) (by omega)
    rw [show n - 1 - (n - 1 - (i + 1)) = i + 1 by omega] at h1 h3
    have e : knownAt Ks n (n - 1 - i) = stepK (knownAt Ks n (n - 1 - (i + 1))) (i + 1) := by
      rw [show n - 1 - i = (n - 1 - (i + 1)) + 1 by omega]
      show stepK (knownAt Ks n (n - 1 - (i + 1))) (n - 1 - (n - 1 - (i + 1))) = _
      rw [show n - 1 - (n - 1 - (i + 1)) = i + 1 by omega]
    rw [e] at b
    refine made_back h1 ?_ b
    by_cases hd : dead (i + 1)
    · exact .inr ⟨(h2 _ hd).1, fun e _ => (h2 _ hd).2 e⟩
    · exact .inl (h3 _ (Nat.le_refl _) hd)
end
end K15
namespace K15
open PySem PySem.Spec PyProof.Rows L2
local macro_rules | `(tactic| walk_at "con") => `(tactic| first | with_reducible refine Gx.conE K15.ks0 ?_ | with_reducible refine Gx.conE K15.ks1 ?_ | with_reducible refine Gx.conE K15.ks2 ?_ | with_reducible refine Gx.conE K15.ks3 ?_ | with_reducible refine Gx.conE K15.ks4 ?_ | with_reducible refine Gx.conE K15.ks5 ?_ | with_reducible refine Gx.conE K15.ks6 ?_ | with_reducible refine Gx.conE K15.ks7 ?_ | with_reducible refine Gx.conE K15.ks8 ?_ | with_reducible refine Gx.conE K15.ks9 ?_ | with_reducible refine Gx.conE K15.ks10 ?_ | with_reducible refine Gx.conE K15.ks11 ?_ | with_reducible refine Gx.conE K15.ks12 ?_ | with_reducible refine Gx.conE K15.ks13 ?_ | with_reducible refine Gx.conE K15.ks14 ?_ | with_reducible refine Gx.conE K15.ks15 ?_)
section
variable {P : Program} {w : World} {K : PySem.W.Frag} {mg : Str → Option Value} {base : Heap}
def ppD : PP → PyData
  | .e => .tuple [.str (Gx.mkS [119, 111, 114, 100]), .str (Gx.mkS [])]
  | .one l => .tuple [.str (Gx.mkS [111, 110, 101]), .str (Gx.mkS l)]
  | .star p => .tuple [.str (Gx.mkS [115, 116, 97, 114]), ppD p]
  | .seq p q => .tuple [.str (Gx.mkS [115, 101, 113]), ppD p, ppD q]
  | .alt p q => .tuple [.str (Gx.mkS [97, 108, 116]), ppD p, ppD q]
def partD (p : PP) : PyData := .tuple [ppD p, .int (p.size : Nat)]
theorem partD_at {K : PySem.W.Frag} {H : Hp} {x : V} {p : PP} (h : Dp K H x (partD p)) : ∃ a v, x = .ref a ∧ SqT K H a [v, .int (p.size : Nat)] ∧ Dp K H v (ppD p) := by
  unfold partD at h
  cases h with
  | tup hs hd =>
    cases hd with
    | cons h1 t =>
      cases t with
      | cons h2 t =>
        cases t
        cases h2
        exact ⟨_, _, rfl, hs, h1⟩
/-- the exception that tells the limit -/
def xdL (n : Int) : HO := .xd [(Str.ofString "limit", .int n)]
theorem fresh_of {H H1 : Hp} {d : Addr} (s : Same H H1) (n : H1 d = none) : H d = none := by
  cases e : H d with
  | none => rfl
  | some o => rw [s _ _ e] at n; cases n
theorem noL_pp : ∀ p : PP, Gx.noL (ppD p) = true
  | .e => rfl
  | .one _ => rfl
  | .star p => by simp only [ppD, Gx.noL, Gx.noLs, noL_pp p, Bool.and_self]
  | .seq p q => by simp only [ppD, Gx.noL, Gx.noLs, noL_pp p, noL_pp q, Bool.and_self]
  | .alt p q => by simp only [ppD, Gx.noL, Gx.noLs, noL_pp p, noL_pp q, Bool.and_self]
theorem noLs_pp : ∀ l : List PP, Gx.noLs (l.map ppD) = true
  | [] => rfl
  | p :: l => by rw [List.map_cons, Gx.noLs, noL_pp p, noLs_pp l]; rfl
theorem noL_part (p : PP) : Gx.noL (partD p) = true := by
  simp only [partD, Gx.noL, Gx.noLs, noL_pp p, Bool.and_self]
theorem dpAll_get2 {K : PySem.W.Frag} {H : Hp} {xs : List V} : ∀ {ps : List PP} {i : Nat} {x : V}, DpAll K H xs (ps.map partD) → xs[i]? = some x → ∃ p, ps[i]? = some p ∧ Dp K H x (partD p) := by
  induction xs with
  | nil => intro ps i x _ h; simp at h
  | cons y xs ih =>
    intro ps i x d h
    cases ps with
    | nil => cases d
    | cons p ps =>
      cases d with
      | cons a t =>
        cases i with
        | zero => cases h; exact ⟨p, rfl, a⟩
        | succ i => exact ih (ps := ps) (i := i) t (by simpa using h)
theorem sum_cast : ∀ l : List PP, (l.map fun p => ((p.size : Nat) : Int)).sum = (((l.map PP.size).sum : Nat) : Int)
  | [] => rfl
  | n :: l => by rw [List.map_cons, List.sum_cons, List.map_cons, List.sum_cons, sum_cast l]; omega
/-- what a def tells that may refuse: ok, or TooMany(most) -/
def Tells (K : PySem.W.Frag) (B : Addr) (most : Int) (ok : Prop) (H : Hp) (E : XK) : Prop := ¬ ok → ∀ H' d, Same H H' → H d = none → H' d = some (xdL most) → E (.ref B) (some d) H'
theorem Tells.same {K : PySem.W.Frag} {B : Addr} {most : Int} {ok : Prop} {H H1 : Hp} {E : XK} (h : Tells K B most ok H E) (s : Same H H1) : Tells K B most ok H1 E := fun n H' d s' nd hd => h n H' d (s.trans s') (fresh_of s nd) hd
def sp_sized (K : PySem.W.Frag) (B : Addr) : Sp := fun vs H Q E => ∃ (kd : List Nat) (l : Addr) (xs : List V) (ps : List PP) (most : Int), vs = [.str (Gx.mkS kd), .ref l, .int most] ∧ SqL K H l xs ∧ DpAll K H xs (ps.map partD) ∧ ps.length ≤ 2 ∧
  (((1 + (ps.map PP.size).sum : Nat) : Int) ≤ most → ∀ H' v, Same H H' → Dp K H' v (.tuple [.tuple (.str (Gx.mkS kd) :: ps.map ppD), .int ((1 + (ps.map PP.size).sum : Nat) : Int)]) → Q v H') ∧
  Tells K B most (((1 + (ps.map PP.size).sum : Nat) : Int) ≤ most) H E
theorem G_TooMany_init (T : Txt K mg w) : FnOk P w K mg base CX0 1 T.f_TooMany_init T.fd_TooMany_init ["self", "limit"] (Gx.spOi K T.a_TooMany "limit") := by
  refine T.F_TooMany_init.ok sc_TooMany_init (fun vs H Q E h => ?_) (fun cdv A outer s H vs Q E hr h => ?_)
  · obtain ⟨a, v, rfl, _⟩ := h
    rfl
  · obtain ⟨a, v, rfl, ha, q⟩ := h
    refine ⟨_, ((pss_one (ps_ost (pv 0) (pv 1)))), ?_⟩
    rw [st_TooMany_init]
    try dsimp only [cxOf]
    exact ⟨_, rfl, _, rfl, a, T.a_TooMany, rfl, T.o_TooMany, T.on_TooMany, .inl ⟨ha, fun dx nd ne => q dx nd ne⟩⟩
set_option maxHeartbeats 4000000 in
theorem G_sized (T : Txt K mg w) : FnOk P w K mg base (L2.CX P w) 3 T.f_sized T.fd_sized ["kind", "parts", "most"] (sp_sized K T.a_TooMany) := by
  have G_TooMany_init := G_TooMany_init (P := P) (w := w) (base := base) T
  refine T.F_sized.okX sc_sized (fun vs H Q E h => ?_) (fun cdv A outer s H vs Q E hr h => ?_)
  · obtain ⟨kd, l, xs, ps, most, rfl, _⟩ := h
    rfl
  · obtain ⟨kd, l, xs, ps, most, rfl, hl, hd, hp2, q, qe⟩ := h
    refine ⟨_, ((pss_cons (ps_set (i := 3) sc_sized.nd rfl (Or.inl rfl) (pe_op op_add pe_int (pe_callB (cr_sum rfl) (by rfl) T.z_sum bt_sum (pa_cons (pe_lc (own := [("part", 4)]) (g := (gName 4)) (tt := tYes) (by rfl) sc_sized.nd (pi_list (pv 1)) (blkOk_by (N := ["kind", "parts", "most", "size", "part"]) (sc := defScope s_sized) (by decide +kernel)) (fun _ _ _ _ _ => (pg_name (i := 4) sc_sized.nd rfl (Or.inl rfl))) (fun _ _ _ _ _ => pts_nil) (fun _ _ _ _ _ => (pe_ix (r := rIxT K) ix_tup (pv 4) pe_int (fun _ _ => rfl)))) pa_nil))))
  (pss_cons (ps_if (pt_cmpR op_gt (pv 3) (pv 2) (nomark _))
  (pss_one (ps_raise rfl (takes_of rfl rfl rfl rfl) (pmk_oex T.o_TooMany T.oi_TooMany T.ot_TooMany G_TooMany_init (hr.mono (by first | decide | omega)) T.b_TooMany_init .nil pass0 rfl T.g_TooMany (pa_cons (pv 2) pa_nil))))
  pss_nil)
  (pss_one (ps_ret (pe_tup (pa_cons (pe_op op_catA (pe_tup (pa_cons (pv 0) pa_nil)) (pe_callTy Gx.cr_tupL (by rfl) T.z_tuple bt_tuple (pa_cons (pe_lc (own := [("part", 4)]) (g := (gName 4)) (tt := tYes) (by rfl) sc_sized.nd (pi_list (pv 1)) (blkOk_by (N := ["kind", "parts", "most", "size", "part"]) (sc := defScope s_sized) (by decide +kernel)) (fun _ _ _ _ _ => (pg_name (i := 4) sc_sized.nd rfl (Or.inl rfl))) (fun _ _ _ _ _ => pts_nil) (fun _ _ _ _ _ => (pe_ix (r := rIxT K) ix_tup (pv 4) pe_int (fun _ _ => rfl)))) pa_nil))) (pa_cons (pv 3) pa_nil)))))))), ?_⟩
    clear G_TooMany_init
    rw [st_sized]
    try dsimp only [cxOf]
    have hxl := Gx.dpAll_len hd
    rw [List.length_map] at hxl
    walk_at "g"
    refine ⟨⟨_, hl⟩, fun D nD => lc_list (K := K) (a := l) (xs := xs) (fun i H' => Same H H' ∧ H' D = some (.lst (((ps.take i).map fun p => ((p.size : Nat) : Int)).map V.int))) ⟨Gx.Same.put (Same.refl H) nD, upd_same⟩ (fun i H' _ z => z.1.seq hl) ?_ ?_⟩
    · rintro i x H' hx ⟨s', e'⟩
      obtain ⟨p, hp, dp⟩ := dpAll_get2 hd hx
      obtain ⟨a, v, rfl, ht, dv⟩ := partD_at (Gx.dp_same s' _ _ dp)
      have hil := (List.getElem?_eq_some_iff.mp hp).1
      walk_at "g"
      refine ⟨rfl, ?_⟩
      walk_at "g"
      refine ⟨_, e', Gx.lineL (by rw [List.length_map, List.length_map, List.length_take]; omega), Gx.Same.put s' nD, ?_⟩
      rw [upd_same, List.take_succ, hp]
      simp only [Option.toList, List.map_append, List.map_cons, List.map_nil]
    · rintro H' ⟨s', e'⟩
      rw [List.take_of_length_le (by omega)] at e'
      walk_at "g"
      refine ⟨D, _, rfl, SqL.of e', ?_⟩
      rw [sum_cast]
      walk_at "g"
      refine Gx.iteD (fun hbig => ?_) (fun hok => ?_)
      · refine Gx.mkO ?_ ?_
        · walk_at "g"
          exact ⟨_, rfl, fun d nd => qe (by omega) _ d (s'.trans (Gx.Same.put (Same.refl _) nd)) (fresh_of s' nd) upd_same⟩
        · rintro Q1 Q2 h12 ⟨v, e, h⟩
          exact ⟨v, e, h12 _ _ h⟩
      · walk_at "g"
        refine Gx.newT (by simp) (fun t1 H1 E1 => ?_)
        have hl1 := (s'.trans E1.same).seq hl
        walk_at "g"
        refine ⟨⟨_, hl1⟩, fun D2 nD2 => lc_list (K := K) (a := l) (xs := xs) (fun i H2 => Same H1 H2 ∧ ∃ zs, H2 D2 = some (.lst zs) ∧ DpAll K H2 zs ((ps.take i).map ppD)) ⟨Gx.Same.put (Same.refl H1) nD2, [], upd_same, .nil⟩ (fun i H2 _ z => z.1.seq hl1) ?_ ?_⟩
        · rintro i x H2 hx ⟨s2, zs, e2, d2⟩
          obtain ⟨p, hp, dp⟩ := dpAll_get2 hd hx
          obtain ⟨a, v, rfl, ht, dv⟩ := partD_at (Gx.dp_same ((s'.trans E1.same).trans s2) _ _ dp)
          have hil := (List.getElem?_eq_some_iff.mp hp).1
          have hzl := Gx.dpAll_len d2
          rw [List.length_map, List.length_take] at hzl
          walk_at "g"
          refine ⟨rfl, ?_⟩
          walk_at "g"
          refine ⟨zs, e2, Gx.lineL (by omega), Gx.Same.put s2 nD2, zs ++ [v], upd_same, ?_⟩
          rw [List.take_succ, hp]
          simp only [Option.toList, List.map_append, List.map_cons, List.map_nil]
          exact Gx.dpAll_snoc e2 d2 (noLs_pp _) dv (noL_pp _)
        · rintro H2 ⟨s2, zs, e2, d2⟩
          rw [List.take_of_length_le (by omega)] at d2
          have hzl := Gx.dpAll_len d2
          rw [List.length_map] at hzl
          walk_at "g"
          refine Gx.tupL (SqL.of e2) (fun t2 n2 => ?_)
          have E3 := Gx.ext1 (o := .tup zs) n2
          refine Gx.catA (E3.same.seqT (s2.seqT (SqT.of E1.at_))) (SqT.of upd_same) (by simp; omega) (fun t3 H4 s4 h4 => ?_)
          walk_at "g"
          refine Gx.newT (by simp) (fun t5 H5 E5 => ?_)
          refine q (by omega) H5 (.ref t5) (s'.trans (E1.same.trans (s2.trans (E3.same.trans (s4.trans E5.same))))) ?_
          refine .tup (SqT.of E5.at_) (.cons (.tup (E5.same.seqT h4) (.cons (.str _) (Gx.dpAll_same (E3.same.trans (s4.trans E5.same)) _ _ d2))) (.cons ?_ .nil))
          exact .int _
end
end K15
namespace K15
open PySem PySem.Spec PyProof.Rows L2
local macro_rules | `(tactic| walk_at "con") => `(tactic| first | with_reducible refine Gx.conE K15.ks0 ?_ | with_reducible refine Gx.conE K15.ks1 ?_ | with_reducible refine Gx.conE K15.ks2 ?_ | with_reducible refine Gx.conE K15.ks3 ?_ | with_reducible refine Gx.conE K15.ks4 ?_ | with_reducible refine Gx.conE K15.ks5 ?_ | with_reducible refine Gx.conE K15.ks6 ?_ | with_reducible refine Gx.conE K15.ks7 ?_ | with_reducible refine Gx.conE K15.ks8 ?_ | with_reducible refine Gx.conE K15.ks9 ?_ | with_reducible refine Gx.conE K15.ks10 ?_ | with_reducible refine Gx.conE K15.ks11 ?_ | with_reducible refine Gx.conE K15.ks12 ?_ | with_reducible refine Gx.conE K15.ks13 ?_ | with_reducible refine Gx.conE K15.ks14 ?_ | with_reducible refine Gx.conE K15.ks15 ?_)
section
variable {P : Program} {w : World} {K : PySem.W.Frag} {mg : Str → Option Value} {base : Heap}
def PP.sg : PP → Prop
  | .e => True
  | .one l => Gx.Cp l
  | .star p => p.sg
  | .seq p q => p.sg ∧ q.sg
  | .alt p q => p.sg ∧ q.sg
theorem PP.depth_pos (p : PP) : 1 ≤ p.depth := by cases p <;> simp [PP.depth]
theorem PP.depD : ∀ p : PP, PyData.depth (ppD p) = p.depth
  | .e => by simp [ppD, PyData.depth, PyData.depthAll, PP.depth]
  | .one l => by simp [ppD, PyData.depth, PyData.depthAll, PP.depth]
  | .star p => by have := PP.depD p; have := PP.depth_pos p; simp only [ppD, PyData.depth, PyData.depthAll, PP.depth]; omega
  | .seq p q => by have := PP.depD p; have := PP.depD q; have := PP.depth_pos p; simp only [ppD, PyData.depth, PyData.depthAll, PP.depth]; omega
  | .alt p q => by have := PP.depD p; have := PP.depD q; have := PP.depth_pos p; simp only [ppD, PyData.depth, PyData.depthAll, PP.depth]; omega
theorem PP.canD : ∀ p : PP, p.sg → PyData.canLay0 (ppD p) = true
  | .e, _ => by decide +kernel
  | .one l, h => by
    have h1 : PyData.strOk (Gx.mkS [111, 110, 101]) = true := by decide +kernel
    have h2 := Gx.Cp.ok h
    simp [ppD, PyData.canLay0, PyData.canLayAll0, h1, h2]
  | .star p, h => by
    have h1 : PyData.strOk (Gx.mkS [115, 116, 97, 114]) = true := by decide +kernel
    have h2 := PP.canD p h
    simp [ppD, PyData.canLay0, PyData.canLayAll0, h1, h2]
  | .seq p q, h => by
    have h1 : PyData.strOk (Gx.mkS [115, 101, 113]) = true := by decide +kernel
    have h2 := PP.canD p h.1
    have h3 := PP.canD q h.2
    simp [ppD, PyData.canLay0, PyData.canLayAll0, h1, h2, h3]
  | .alt p q, h => by
    have h1 : PyData.strOk (Gx.mkS [97, 108, 116]) = true := by decide +kernel
    have h2 := PP.canD p h.1
    have h3 := PP.canD q h.2
    simp [ppD, PyData.canLay0, PyData.canLayAll0, h1, h2, h3]
theorem PP.okD : ∀ p : PP, p.sg → Gx.okD (ppD p) = true
  | .e, _ => by decide +kernel
  | .one l, h => by
    have h1 : PyData.strOk (Gx.mkS [111, 110, 101]) = true := by decide +kernel
    have h2 := Gx.Cp.ok h
    simp [ppD, Gx.okD, Gx.okDs, h1, h2]
  | .star p, h => by
    have h1 : PyData.strOk (Gx.mkS [115, 116, 97, 114]) = true := by decide +kernel
    have h2 := PP.okD p h
    simp [ppD, Gx.okD, Gx.okDs, h1, h2]
  | .seq p q, h => by
    have h1 : PyData.strOk (Gx.mkS [115, 101, 113]) = true := by decide +kernel
    have h2 := PP.okD p h.1
    have h3 := PP.okD q h.2
    simp [ppD, Gx.okD, Gx.okDs, h1, h2, h3]
  | .alt p q, h => by
    have h1 : PyData.strOk (Gx.mkS [97, 108, 116]) = true := by decide +kernel
    have h2 := PP.okD p h.1
    have h3 := PP.okD q h.2
    simp [ppD, Gx.okD, Gx.okDs, h1, h2, h3]
theorem part_shaped {p : PP} (h : p.sg) (d : p.depth ≤ 50) : SeqAt.shaped (partD p) = true := by
  unfold SeqAt.shaped
  have h1 := PP.canD p h
  have h2 := PP.depD p
  simp only [partD, PyData.canLay0, PyData.canLayAll0, h1, Bool.true_and, Bool.and_true, PyData.depth, PyData.depthAll]
  refine decide_eq_true ?_
  omega
theorem part_e (p : PP) : PyData.eqv (partD p) (partD .e) = decide (p = .e) := by
  cases p with
  | e => decide +kernel
  | one l =>
    rw [decide_eq_false (by simp)]
    have : (Gx.mkS [111, 110, 101] == Gx.mkS [119, 111, 114, 100]) = false := by decide +kernel
    simp [partD, ppD, PyData.eqv, PyData.eqvAll, this]
  | star p =>
    rw [decide_eq_false (by simp)]
    have : (Gx.mkS [115, 116, 97, 114] == Gx.mkS [119, 111, 114, 100]) = false := by decide +kernel
    simp [partD, ppD, PyData.eqv, PyData.eqvAll, this]
  | seq p q =>
    rw [decide_eq_false (by simp)]
    have : (Gx.mkS [115, 101, 113] == Gx.mkS [119, 111, 114, 100]) = false := by decide +kernel
    simp [partD, ppD, PyData.eqv, PyData.eqvAll, this]
  | alt p q =>
    rw [decide_eq_false (by simp)]
    have : (Gx.mkS [97, 108, 116] == Gx.mkS [119, 111, 114, 100]) = false := by decide +kernel
    simp [partD, ppD, PyData.eqv, PyData.eqvAll, this]
def sp_inf (K : PySem.W.Frag) (B : Addr) : Sp := fun vs H Q E => ∃ (x y : V) (a b : PP) (most : Int), vs = [x, y, .int most] ∧ Dp K H x (partD a) ∧ Dp K H y (partD b) ∧ b.sg ∧ b.depth ≤ 50 ∧
  ((b = .e ∨ ((inF a b).size : Int) ≤ most) → ∀ H' v, Same H H' → Dp K H' v (partD (inF a b)) → Q v H') ∧ Tells K B most (b = .e ∨ ((inF a b).size : Int) ≤ most) H E
theorem emptyD (T : Txt K mg w) (H : Hp) : Dp K H (.ref T.a_EMPTY) (partD .e) := .tup (T.kp_EMPTY H) (.cons (.tup (T.kt_EMPTY H) (.cons (.str _) (.cons (.str _) .nil))) (.cons (.int _) .nil))
set_option maxHeartbeats 4000000 in
theorem G_in_front (T : Txt K mg w) : FnOk P w K mg base (L2.CX P w) 4 T.f_in_front T.fd_in_front ["first", "part", "most"] (sp_inf K T.a_TooMany) := by
  have G_sized := G_sized (P := P) (w := w) (base := base) T
  refine T.F_in_front.okX sc_in_front (fun vs H Q E h => ?_) (fun cdv A outer s H vs Q E hr h => ?_)
  · obtain ⟨x, y, a, b, most, rfl, _⟩ := h
    rfl
  · obtain ⟨x, y, a, b, most, rfl, hx, hy, hsg, hdp, q, qe⟩ := h
    refine ⟨_, ((pss_cons (ps_if (pt_cmpR (op_eqD hr.units) (pv 1) (pe_glob (v := .ref T.a_EMPTY) rfl T.g_EMPTY rfl) (nomark _))
  (pss_one (ps_ret (pv 0)))
  pss_nil)
  (pss_one (ps_ret (pe_call G_sized (hr.mono (by first | decide | omega)) (by rfl) T.g_sized T.F_sized.kp T.b_sized .nil (passes_call (takes_of rfl rfl rfl rfl) (fun _ _ _ _ h => h)) (pa_cons pe_str (pa_cons (pe_lst (pa_cons (pv 0) (pa_cons (pv 1) pa_nil))) (pa_cons (pv 2) pa_nil)))))))), ?_⟩
    clear G_sized
    rw [st_in_front]
    try dsimp only [cxOf]
    obtain ⟨ax, vx, rfl, hxs, hxd⟩ := partD_at hx
    obtain ⟨ay, vy, rfl, hys, hyd⟩ := partD_at hy
    walk_at "g"
    refine ⟨_, _, hy, emptyD T H, part_shaped hsg hdp, part_shaped (p := .e) trivial (by decide), ?_⟩
    rw [part_e]
    walk_at "g"
    refine Gx.iteD (fun he => ?_) (fun hne => ?_)
    · walk_at "g"
      refine q (.inl he) H (.ref ax) (Same.refl H) ?_
      unfold inF
      rw [if_pos he]
      exact hx
    · walk_at "g"
      refine Gx.newL (by simp) (fun l H1 E1 => ?_)
      walk_at "g"
      have e : inF a b = .seq a b := if_neg hne
      rw [e] at q qe
      have sz : ((1 + ([a, b].map PP.size).sum : Nat) : Int) = ((PP.seq a b).size : Int) := by
        simp only [List.map_cons, List.map_nil, List.sum_cons, List.sum_nil, PP.size]
        omega
      refine ⟨[115, 101, 113], l, _, [a, b], most, rfl, SqL.of E1.at_, .cons (Gx.dp_same E1.same _ _ hx) (.cons (Gx.dp_same E1.same _ _ hy) .nil), by simp, ?_, ?_⟩
      · intro hle H2 v s2 dv
        rw [sz] at hle dv
        exact q (.inr hle) H2 v (E1.same.trans s2) dv
      · rw [sz]
        intro hn H2 d s2 nd hd
        exact qe (fun z => z.elim hne hn) H2 d (E1.same.trans s2) (fresh_of E1.same nd) hd
end
end K15
namespace K15
open PySem PySem.Spec PyProof.Rows L2
local macro_rules | `(tactic| walk_at "con") => `(tactic| first | with_reducible refine Gx.conE K15.ks0 ?_ | with_reducible refine Gx.conE K15.ks1 ?_ | with_reducible refine Gx.conE K15.ks2 ?_ | with_reducible refine Gx.conE K15.ks3 ?_ | with_reducible refine Gx.conE K15.ks4 ?_ | with_reducible refine Gx.conE K15.ks5 ?_ | with_reducible refine Gx.conE K15.ks6 ?_ | with_reducible refine Gx.conE K15.ks7 ?_ | with_reducible refine Gx.conE K15.ks8 ?_ | with_reducible refine Gx.conE K15.ks9 ?_ | with_reducible refine Gx.conE K15.ks10 ?_ | with_reducible refine Gx.conE K15.ks11 ?_ | with_reducible refine Gx.conE K15.ks12 ?_ | with_reducible refine Gx.conE K15.ks13 ?_ | with_reducible refine Gx.conE K15.ks14 ?_ | with_reducible refine Gx.conE K15.ks15 ?_)
section
variable {P : Program} {w : World} {K : PySem.W.Frag} {mg : Str → Option Value} {base : Heap}
/-- a dict that holds an equation -/
structure EqD (K : PySem.W.Frag) (H : Hp) (kvs : List (Key × V)) (E : Eqn) : Prop where
  nd : (kvs.map (·.1)).Nodup
  no : ∀ i : Int, E i = none → valV kvs (.inl i) = none
  so : ∀ (i : Int) p, E i = some p → ∃ v, valV kvs (.inl i) = some v ∧ Dp K H v (partD p)
  ks : ∀ k ∈ kvs.map (·.1), ∃ i : Int, k = .inl i ∧ (E i).isSome
theorem EqD.mono {K : PySem.W.Frag} {H H' : Hp} {kvs : List (Key × V)} {E : Eqn} (h : EqD K H kvs E) (t : ∀ v p, Dp K H v (partD p) → Dp K H' v (partD p)) : EqD K H' kvs E :=
  ⟨h.nd, h.no, fun i p e => let ⟨v, a, b⟩ := h.so i p e; ⟨v, a, t v p b⟩, h.ks⟩
theorem EqD.same {K : PySem.W.Frag} {H H' : Hp} {kvs : List (Key × V)} {E : Eqn} (h : EqD K H kvs E) (s : Same H H') : EqD K H' kvs E := h.mono fun v p d => Gx.dp_same s _ _ d
theorem EqD.get {K : PySem.W.Frag} {H : Hp} {kvs : List (Key × V)} {E : Eqn} (h : EqD K H kvs E) {i : Int} {v : V} (e : valV kvs (.inl i) = some v) : ∃ p, E i = some p ∧ Dp K H v (partD p) := by
  cases hE : E i with
  | none => rw [h.no i hE] at e; cases e
  | some p =>
    obtain ⟨v', a, b⟩ := h.so i p hE
    rw [a] at e
    cases e
    exact ⟨p, rfl, b⟩
theorem nd_put {κ : Type} [DecidableEq κ] {kvs : List (κ × V)} {k : κ} (v : V) (hn : (kvs.map (·.1)).Nodup) : ((putK kvs k v).map (·.1)).Nodup := by
  cases h : valV kvs k with
  | none => exact nd_putK v hn h
  | some x =>
    have e : (kvs.any fun kv => decide (kv.1 = k)) = true := by rw [valV_any, h]; rfl
    unfold putK
    rw [if_pos e, List.map_map]
    have : ((fun x => x.1) ∘ fun kv : κ × V => if kv.1 = k then (kv.1, v) else kv) = fun kv => kv.1 := by
      funext kv
      show (if kv.1 = k then (kv.1, v) else kv).1 = kv.1
      split <;> rfl
    rw [this]
    exact hn
theorem keys_put {κ : Type} [DecidableEq κ] {kvs : List (κ × V)} {k j : κ} {v : V} (h : j ∈ (putK kvs k v).map (·.1)) : j = k ∨ j ∈ kvs.map (·.1) := by
  by_cases e : j = k
  · exact .inl e
  · refine .inr ?_
    obtain ⟨p, hp, hpe⟩ := List.mem_map.mp h
    have hs : (valV (putK kvs k v) j).isSome = true := by
      rw [← valV_any]
      exact List.any_eq_true.mpr ⟨p, hp, decide_eq_true hpe⟩
    rw [valV_put, if_neg e] at hs
    obtain ⟨w, hw⟩ := Option.isSome_iff_exists.mp hs
    exact valV_in hw
theorem EqD.put {K : PySem.W.Frag} {H : Hp} {kvs : List (Key × V)} {E : Eqn} (h : EqD K H kvs E) (i : Int) {v : V} {p : PP} (d : Dp K H v (partD p)) : EqD K H (putK kvs (.inl i) v) (fun t => if t = i then some p else E t) := by
  have inj : ∀ a b : Int, (Sum.inl a : Key) = .inl b ↔ a = b := fun a b => ⟨fun z => by injection z, fun z => by rw [z]⟩
  refine ⟨nd_put v h.nd, fun j hj => ?_, fun j q hj => ?_, fun k hk => ?_⟩
  · by_cases e : j = i
    · rw [if_pos e] at hj; cases hj
    · rw [if_neg e] at hj
      rw [valV_put, if_neg (fun z => e ((inj j i).mp z))]
      exact h.no j hj
  · by_cases e : j = i
    · rw [if_pos e] at hj
      cases hj
      subst e
      exact ⟨v, by rw [valV_put, if_pos rfl], d⟩
    · rw [if_neg e] at hj
      rw [valV_put, if_neg (fun z => e ((inj j i).mp z))]
      exact h.so j q hj
  · rcases keys_put hk with rfl | hk
    · exact ⟨i, rfl, by rw [if_pos rfl]; rfl⟩
    · obtain ⟨j, rfl, hj⟩ := h.ks k hk
      refine ⟨j, rfl, ?_⟩
      split
      · rfl
      · exact hj
theorem valV_drop {κ : Type} [DecidableEq κ] (k j : κ) : ∀ kvs : List (κ × V), valV (dropK kvs k) j = if j = k then none else valV kvs j
  | [] => by simp [dropK, valV]
  | p :: r => by
    by_cases e : p.1 = k
    · rw [dropK_pos e, valV_drop k j r]
      by_cases h : j = k
      · rw [if_pos h, if_pos h]
      · rw [if_neg h, if_neg h, valV_neg (fun z => h (z.symm.trans e))]
    · rw [dropK_neg e]
      by_cases hp : p.1 = j
      · rw [valV_pos hp, valV_pos hp, if_neg (fun z => e (hp.trans z))]
      · rw [valV_neg hp, valV_neg hp, valV_drop k j r]
theorem EqD.drop {K : PySem.W.Frag} {H : Hp} {kvs : List (Key × V)} {E : Eqn} (h : EqD K H kvs E) (i : Int) : EqD K H (dropK kvs (.inl i)) (fun t => if t = i then none else E t) := by
  have inj : ∀ a b : Int, (Sum.inl a : Key) = .inl b ↔ a = b := fun a b => ⟨fun z => by injection z, fun z => by rw [z]⟩
  refine ⟨nd_dropK h.nd, fun j hj => ?_, fun j q hj => ?_, fun k hk => ?_⟩
  · rw [valV_drop]
    by_cases e : j = i
    · rw [if_pos ((inj j i).mpr e)]
    · rw [if_neg e] at hj
      rw [if_neg (fun z => e ((inj j i).mp z))]
      exact h.no j hj
  · by_cases e : j = i
    · rw [if_pos e] at hj; cases hj
    · rw [if_neg e] at hj
      rw [valV_drop, if_neg (fun z => e ((inj j i).mp z))]
      exact h.so j q hj
  · obtain ⟨p, hp, rfl⟩ := List.mem_map.mp hk
    obtain ⟨j, e, hj⟩ := h.ks p.1 (List.mem_map.mpr ⟨p, dropK_mem hp, rfl⟩)
    refine ⟨j, e, ?_⟩
    have hne : j ≠ i := fun z => by
      have := (List.mem_filter.mp hp).2
      rw [e, z] at this
      simp at this
    rw [if_neg hne]
    exact hj
theorem tupsU {K : PySem.W.Frag} {H : Hp} {p : Addr} {u v : HO} (h : H p = some u) (n1 : ∀ xs, u ≠ .tup xs) (n2 : ∀ o w, u ≠ .frz o (.tup w)) : Gx.Tups K H (upd H p v) := fun a us q => by
  have ne : ∀ {b : Addr} {o : HO}, H b = some o → o ≠ u → b ≠ p := fun {b o} q n z => by
    rw [z, h] at q
    cases q
    exact n rfl
  rcases q with (q | ⟨o, q⟩) | q
  · exact .inl (.inl (by rw [upd_ne (ne q (n1 _).symm)]; exact q))
  · exact .inl (.inr ⟨o, by rw [upd_ne (ne q (n2 _ _).symm)]; exact q⟩)
  · exact .inr q
theorem EqD.updK {K : PySem.W.Frag} {H : Hp} {a : Addr} {ks ks' kvs : List (Key × V)} {E : Eqn} (h : EqD K H kvs E) (e : H a = some (.dK ks)) : EqD K (upd H a (.dK ks')) kvs E :=
  h.mono fun v p d => Gx.dp_tups (tupsU e (fun _ z => nomatch z) (fun _ _ z => nomatch z)) _ _ (noL_part p) d
def sp_added (K : PySem.W.Frag) (B : Addr) : Sp := fun vs H Q E => ∃ (d : Addr) (i : Int) (y : V) (b : PP) (most : Int) (kvs : List (Key × V)) (F : Eqn), vs = [.ref d, .int i, y, .int most] ∧ H d = some (.dK kvs) ∧ EqD K H kvs F ∧ kvs.length ≤ 1000 ∧ Dp K H y (partD b) ∧
  ((F i = none ∨ ((addO (F i) b).size : Int) ≤ most) → ∀ H' kvs', (∀ c u, c ≠ d → H c = some u → H' c = some u) → H' d = some (.dK kvs') → EqD K H' kvs' (fun t => if t = i then some (addO (F i) b) else F t) → kvs'.length ≤ kvs.length + 1 → Q .non H') ∧
  Tells K B most (F i = none ∨ ((addO (F i) b).size : Int) ≤ most) H E
set_option maxHeartbeats 4000000 in
theorem G_added (T : Txt K mg w) : FnOk P w K mg base (L2.CX P w) 4 T.f_added T.fd_added ["known", "key", "part", "most"] (sp_added K T.a_TooMany) := by
  have G_sized := G_sized (P := P) (w := w) (base := base) T
  refine T.F_added.okX sc_added (fun vs H Q E h => ?_) (fun cdv A outer s H vs Q E hr h => ?_)
  · obtain ⟨d, i, y, b, most, kvs, F, rfl, _⟩ := h
    rfl
  · obtain ⟨d, i, y, b, most, kvs, F, rfl, hd, hE, hlen, hy, q, qe⟩ := h
    refine ⟨_, ((pss_one (ps_if (pt_cmp (pc_din (Gx.hu1 hr.units) (pv 1) (pv 0)))
  (pss_one (ps_dput (Gx.hu1 hr.units) (pv 0) (pv 1) (pe_call G_sized (hr.mono (by first | decide | omega)) (by rfl) T.g_sized T.F_sized.kp T.b_sized .nil (passes_call (takes_of rfl rfl rfl rfl) (fun _ _ _ _ h => h)) (pa_cons pe_str (pa_cons (pe_lst (pa_cons (pe_dget (Gx.hu1 hr.units) (pv 0) (pv 1) (fun _ _ => rfl)) (pa_cons (pv 2) pa_nil))) (pa_cons (pv 3) pa_nil)))) rfl))
  (pss_one (ps_dput (Gx.hu1 hr.units) (pv 0) (pv 1) (pv 2) rfl))))), ?_⟩
    clear G_sized
    rw [st_added]
    try dsimp only [cxOf]
    obtain ⟨ay, vy, rfl, hys, hyd⟩ := partD_at hy
    walk_at "g"
    refine ⟨d, _, rfl, DGet.k (k := .inl i) hd, _, rfl, ?_⟩
    cases hF : F i with
    | none =>
      rw [hE.no i hF]
      rw [hF] at q
      rw [if_neg (by decide)]
      refine Gx.dput ?_
      walk_at "g"
      refine ⟨d, _, rfl, DPut.k (k := .inl i) hd (by rw [sizeLine_eq]; omega), ?_⟩
      refine q (.inl rfl) _ _ (fun c u hc e => by rw [upd_ne hc]; exact e) upd_same ?_ (length_putK _ _ _)
      exact (hE.put i hy).updK hd
    | some a =>
      obtain ⟨v0, hv0, dv0⟩ := hE.so i a hF
      rw [hv0]
      rw [hF] at q qe
      rw [if_pos (by rfl)]
      refine Gx.dput ?_
      walk_at "g"
      refine ⟨d, v0, rfl, by rw [← hv0]; exact DGet.k (k := .inl i) hd, ?_⟩
      walk_at "g"
      refine Gx.newL (by simp) (fun l H1 E1 => ?_)
      walk_at "g"
      have sz : ((1 + ([a, b].map PP.size).sum : Nat) : Int) = ((PP.alt a b).size : Int) := by
        simp only [List.map_cons, List.map_nil, List.sum_cons, List.sum_nil, PP.size]
        omega
      refine ⟨[97, 108, 116], l, _, [a, b], most, rfl, SqL.of E1.at_, .cons (Gx.dp_same E1.same _ _ dv0) (.cons (Gx.dp_same E1.same _ _ hy) .nil), by simp, ?_, ?_⟩
      · intro hle H2 v s2 dv
        rw [sz] at hle dv
        have s02 := E1.same.trans s2
        have hd2 := s02 _ _ hd
        walk_at "g"
        refine ⟨d, _, rfl, DPut.k (k := .inl i) hd2 (by rw [sizeLine_eq]; omega), ?_⟩
        refine q (.inr hle) _ _ (fun c u hc e => by rw [upd_ne hc]; exact s02 _ _ e) upd_same ?_ (length_putK _ _ _)
        exact (((hE.same s02).put i (p := .alt a b) dv)).updK hd2
      · rw [sz]
        intro hn H2 x s2 nd hx
        exact qe (fun z => z.elim (fun z => nomatch z) hn) H2 x (E1.same.trans s2) (fresh_of E1.same nd) hx
end
end K15
namespace K15
open PySem PySem.Spec PyProof.Rows L2
local macro_rules | `(tactic| walk_at "con") => `(tactic| first | with_reducible refine Gx.conE K15.ks0 ?_ | with_reducible refine Gx.conE K15.ks1 ?_ | with_reducible refine Gx.conE K15.ks2 ?_ | with_reducible refine Gx.conE K15.ks3 ?_ | with_reducible refine Gx.conE K15.ks4 ?_ | with_reducible refine Gx.conE K15.ks5 ?_ | with_reducible refine Gx.conE K15.ks6 ?_ | with_reducible refine Gx.conE K15.ks7 ?_ | with_reducible refine Gx.conE K15.ks8 ?_ | with_reducible refine Gx.conE K15.ks9 ?_ | with_reducible refine Gx.conE K15.ks10 ?_ | with_reducible refine Gx.conE K15.ks11 ?_ | with_reducible refine Gx.conE K15.ks12 ?_ | with_reducible refine Gx.conE K15.ks13 ?_ | with_reducible refine Gx.conE K15.ks14 ?_ | with_reducible refine Gx.conE K15.ks15 ?_)
section
variable {P : Program} {w : World} {K : PySem.W.Frag} {mg : Str → Option Value} {base : Heap}
def PartsOk (F : Eqn) (m : Nat) : Prop := ∀ i p, F i = some p → p.sg ∧ p.depth ≤ m
def okS (F : Eqn) (s most : Int) : Prop := (∀ l, F s = some l → ((PP.star l).size : Int) ≤ most) ∧ ∀ t q, solve1 F s t = some q → (∃ l, F s = some l) → (q.size : Int) ≤ most
def sp_solved (K : PySem.W.Frag) (B : Addr) : Sp := fun vs H Q E => ∃ (d : Addr) (s most : Int) (kvs : List (Key × V)) (F : Eqn), vs = [.ref d, .int s, .int most] ∧ H d = some (.dK kvs) ∧ EqD K H kvs F ∧ kvs.length ≤ 1000 ∧ PartsOk F 50 ∧
  (okS F s most → ∀ H' d' kvs', Same H H' → H' d' = some (.dK kvs') → EqD K H' kvs' (solve1 F s) → kvs'.length ≤ kvs.length → (d' = d ∨ H d' = none) → Q (.ref d') H') ∧
  (¬ okS F s most → ∀ H' x, (∀ c u, c ≠ d → H c = some u → H' c = some u) → H x = none → H' x = some (xdL most) → E (.ref B) (some x) H')
/-- a dict made over the keys of a locked one -/
theorem dc_keys {d : Addr} {od : Obj} {kvs0 : List (Key × V)} {g : TG} {tt : TT} {tk tv : TE} {vs : List Nat} {σ : L2.St} {H1 : Hp} {D : Addr} {Qd : Hp → Prop} (Pv : Nat → Hp → Prop) (h0 : Pv 0 (upd H1 D (.dK []))) (hl : ∀ i H, i ≤ kvs0.length → Pv i H → H d = some (.frz od (.dK kvs0)))
    (hs : ∀ i k v H, kvs0[i]? = some (k, v) → Pv i H → g (kV k) (wipe σ vs) H fun σ2 H2 => wipe σ2 vs = wipe σ vs ∧ tt σ2 H2 fun b H3 =>
      if b = true then tk σ2 H3 fun y H4 => tv σ2 H4 fun z H5 => ∃ kvs k, y = kV k ∧ H5 D = some (.dK kvs) ∧ kvs.length < sizeLine ∧ Pv (i + 1) (upd H5 D (.dK (putK kvs k z))) else Pv (i + 1) H3) (hd : ∀ H, Pv kvs0.length H → Qd H) :
    ∃ W : Nat → Nat → Hp → Prop, (∃ m, W 0 m (upd H1 D (.dK []))) ∧ ∀ i m H, W i m H →
      ((Itk d od kvs0).stop i H ∧ Qd H) ∨ ((Itk d od kvs0).go i H ∧ ∃ Nx : Hp → Prop, (∀ H', Nx H' → ∃ m', m' < m ∧ W (i + 1) m' H') ∧ ∀ x H', (Itk d od kvs0).yld i H x H' → g x (wipe σ vs) H' fun σ2 H2 => wipe σ2 vs = wipe σ vs ∧ tt σ2 H2 fun b H3 =>
        if b = true then tk σ2 H3 fun y H4 => tv σ2 H4 fun z H5 => ∃ kvs k, y = kV k ∧ H5 D = some (.dK kvs) ∧ kvs.length < sizeLine ∧ Nx (upd H5 D (.dK (putK kvs k z))) else Nx H3) := by
  refine ⟨fun i m H => m + i = kvs0.length ∧ Pv i H, ⟨kvs0.length, rfl, h0⟩, ?_⟩
  rintro i m H ⟨hm, p⟩
  have q := hl i H (by omega) p
  cases m with
  | zero =>
    have e : i = kvs0.length := by omega
    subst e
    exact .inl ⟨⟨q, Nat.le_refl _⟩, hd H p⟩
  | succ m =>
    have hlt : i < kvs0.length := by omega
    refine .inr ⟨⟨q, hlt⟩, Pv (i + 1), fun H' p' => ⟨m, Nat.lt_succ_self m, by omega, p'⟩, ?_⟩
    rintro x H' ⟨rfl, k, v, e, rfl⟩
    exact hs i k v _ e p
open Classical in
noncomputable def partE (F : Eqn) (s : Int) (l : PP) (kvs : List (Key × V)) (i : Nat) : Eqn := fun t => if (Sum.inl t : Key) ∈ (kvs.take i).map (fun x : Key × V => x.1) ∧ t ≠ s then (F t).map (inF (.star l)) else none
theorem partE_all {K : PySem.W.Frag} {H : Hp} {F : Eqn} {s : Int} {l : PP} {kvs : List (Key × V)} (hE : EqD K H kvs F) (hs : F s = some l) : partE F s l kvs kvs.length = solve1 F s := by
  funext t
  unfold partE solve1
  rw [hs, List.take_length]
  dsimp only
  by_cases ht : t = s
  · rw [if_neg (fun z => z.2 ht), if_pos ht]
  · rw [if_neg ht]
    cases hF : F t with
    | none => split <;> rfl
    | some p =>
      obtain ⟨v, hv, _⟩ := hE.so t p hF
      rw [if_pos ⟨valV_in hv, ht⟩]
theorem take_key {kvs : List (Key × V)} {i : Nat} {k : Key} {v : V} (h : kvs[i]? = some (k, v)) : (kvs.take (i + 1)).map (fun x : Key × V => x.1) = (kvs.take i).map (fun x : Key × V => x.1) ++ [k] := by
  rw [List.take_succ, h]
  simp
theorem partE_skip {F : Eqn} {s : Int} {l : PP} {kvs : List (Key × V)} {i : Nat} {v : V} (h : kvs[i]? = some (.inl s, v)) : partE F s l kvs (i + 1) = partE F s l kvs i := by
  funext t
  unfold partE
  rw [take_key h]
  by_cases ht : t = s
  · rw [if_neg (fun z => z.2 ht), if_neg (fun z => z.2 ht)]
  · have : (Sum.inl t : Key) ∈ (kvs.take i).map (fun x : Key × V => x.1) ++ [Sum.inl s] ↔ (Sum.inl t : Key) ∈ (kvs.take i).map (fun x : Key × V => x.1) := by
      rw [List.mem_append, List.mem_singleton]
      exact ⟨fun z => z.elim id fun z => absurd (by injection z) ht, .inl⟩
    by_cases hc : (Sum.inl t : Key) ∈ (kvs.take i).map (fun x : Key × V => x.1)
    · rw [if_pos ⟨this.mpr hc, ht⟩, if_pos ⟨hc, ht⟩]
    · rw [if_neg (fun z => hc (this.mp z.1)), if_neg (fun z => hc z.1)]
theorem partE_put {F : Eqn} {s t0 : Int} {l p : PP} {kvs : List (Key × V)} {i : Nat} {v : V} (h : kvs[i]? = some (.inl t0, v)) (hF : F t0 = some p) (hne : t0 ≠ s) : (fun t => if t = t0 then some (inF (.star l) p) else partE F s l kvs i t) = partE F s l kvs (i + 1) := by
  funext t
  unfold partE
  rw [take_key h]
  by_cases ht : t = t0
  · subst ht
    rw [if_pos rfl, if_pos ⟨by simp, hne⟩, hF]
    rfl
  · rw [if_neg ht]
    have : (Sum.inl t : Key) ∈ (kvs.take i).map (fun x : Key × V => x.1) ++ [Sum.inl t0] ↔ (Sum.inl t : Key) ∈ (kvs.take i).map (fun x : Key × V => x.1) := by
      rw [List.mem_append, List.mem_singleton]
      exact ⟨fun z => z.elim id fun z => absurd (by injection z) ht, .inl⟩
    by_cases hc : (Sum.inl t : Key) ∈ (kvs.take i).map (fun x : Key × V => x.1) ∧ t ≠ s
    · rw [if_pos hc, if_pos ⟨this.mpr hc.1, hc.2⟩]
    · rw [if_neg hc, if_neg (fun z => hc ⟨this.mp z.1, z.2⟩)]
theorem key_at {K : PySem.W.Frag} {H : Hp} {F : Eqn} {kvs : List (Key × V)} (hE : EqD K H kvs F) {i : Nat} {k : Key} {v : V} (h : kvs[i]? = some (k, v)) : ∃ t p, k = .inl t ∧ F t = some p := by
  obtain ⟨t, rfl, ht⟩ := hE.ks k (List.mem_map.mpr ⟨_, List.mem_of_getElem? h, rfl⟩)
  obtain ⟨p, hp⟩ := Option.isSome_iff_exists.mp ht
  exact ⟨t, p, rfl, hp⟩
theorem lockE {t : TE} {σ : L2.St} {H : Hp} {Q : VK} {d : Addr} {u : HO} (hd : H d = some u) (m : Mut (some u)) (h : ∀ od, t σ (upd H d (.frz od u)) fun v H' => H' d = some (.frz od u) ∧ Q v (upd H' d u)) : tLockE t σ H Q := ⟨d, u, hd, m, h⟩
theorem dcX {wi : TI} {g : TG} {tt : TT} {tk : TE} {tv : XK → TE} {W : WX} {vs : List Nat} {σ : L2.St} {H : Hp} {Q : VK} (h : wi σ H fun J H1 => ∀ D, H1 D = none → ∃ W' : Nat → Nat → Hp → Prop, (∃ m, W' 0 m (upd H1 D (.dK []))) ∧ ∀ i m H, W' i m H →
    (J.stop i H ∧ Q (.ref D) H) ∨ (J.go i H ∧ ∃ Nx : Hp → Prop, (∀ H', Nx H' → ∃ m', m' < m ∧ W' (i + 1) m' H') ∧ ∀ x H', J.yld i H x H' → g x (wipe σ vs) H' fun σ2 H2 => wipe σ2 vs = wipe σ vs ∧ tt σ2 H2 fun b H3 =>
      if b = true then tk σ2 H3 fun y H4 => (tv fun cls d H' => W cls d σ H') σ2 H4 fun z H5 => ∃ kvs k, y = kV k ∧ H5 D = some (.dK kvs) ∧ kvs.length < sizeLine ∧ Nx (upd H5 D (.dK (putK kvs k z))) else Nx H3)) : tDcX wi g tt tk tv W vs σ H Q := h
theorem DGet.frz {H : Hp} {a : Addr} {od : Obj} {kvs : List (Key × V)} {k : Key} (e : H a = some (.frz od (.dK kvs))) : DGet H a (kV k) (valV kvs k) := .inl ⟨kvs, k, .inr ⟨od, e⟩, rfl, rfl⟩
set_option maxHeartbeats 4000000 in
theorem G_solved (T : Txt K mg w) : FnOk P w K mg base (L2.CX P w) 5 T.f_solved T.fd_solved ["terms", "state", "most"] (sp_solved K T.a_TooMany) := by
  have G_sized := G_sized (P := P) (w := w) (base := base) T
  have G_in_front := G_in_front (P := P) (w := w) (base := base) T
  refine T.F_solved.okX sc_solved (fun vs H Q E h => ?_) (fun cdv A outer s H vs Q E hr h => ?_)
  · obtain ⟨d, s, most, kvs, F, rfl, _⟩ := h
    rfl
  · obtain ⟨d, s, most, kvs, F, rfl, hd, hE, hlen, hok, q, qe⟩ := h
    refine ⟨_, ((pss_cons (ps_if (pt_cmp (pc_dnotin (Gx.hu1 hr.units) (pv 1) (pv 0)))
  (pss_one (ps_ret (pv 0)))
  pss_nil)
  (pss_cons (ps_set (i := 3) sc_solved.nd rfl (Or.inr rfl) (pe_call G_sized (hr.mono (by first | decide | omega)) (by rfl) T.g_sized T.F_sized.kp T.b_sized .nil (passes_call (takes_of rfl rfl rfl rfl) (fun _ _ _ _ h => h)) (pa_cons pe_str (pa_cons (pe_lst (pa_cons (pe_dget (Gx.hu1 hr.units) (pv 0) (pv 1) (fun _ _ => rfl)) pa_nil)) (pa_cons (pv 2) pa_nil)))))
  (pss_one (ps_ret (pe_lock (pe_dcX (own := [("target", 4)]) (g := (gName 4))  (W := fun cls d _ H => E cls d H) rfl sc_solved.nd rfl rfl (takes_of rfl rfl rfl rfl) (pi_keys (pv 0)) (blkOk_by (N := ["terms", "state", "most", "loop", "target"]) (sc := defScope s_solved) (by decide +kernel)) (fun _ _ _ _ _ => (pg_name (i := 4) sc_solved.nd rfl (Or.inl rfl))) (fun _ _ _ _ _ => (pts_one (pt_cmpR op_ne (pv 4) (pv 1) (nomark _)))) (fun _ _ _ _ _ => (pv 4)) (fun _ _ _ _ _ _ _ hxx => (pe_callS G_in_front (hr.mono (by first | decide | omega)) (by rfl) T.g_in_front T.F_in_front.kp T.b_in_front hxx (pa_cons (pv 3) (pa_cons (pe_dget (Gx.hu1 hr.units) (pv 0) (pv 4) (fun _ _ => rfl)) (pa_cons (pv 2) pa_nil)))))))))))), ?_⟩
    clear G_sized G_in_front
    rw [st_solved]
    try dsimp only [cxOf]
    walk_at "g"
    refine ⟨d, _, rfl, DGet.k (k := .inl s) hd, ?_⟩
    refine ⟨_, rfl, ?_⟩
    cases hF : F s with
    | none =>
      rw [hE.no s hF]
      rw [if_pos (by rfl)]
      have e : solve1 F s = F := by unfold solve1; rw [hF]
      rw [e] at q
      walk_at "g"
      exact q ⟨fun l z => (by rw [hF] at z; cases z), fun t p _ z => (by rw [hF] at z; obtain ⟨l, z⟩ := z; cases z)⟩ H d kvs (Same.refl H) hd hE (Nat.le_refl _) (.inl rfl)
    | some l =>
      obtain ⟨v0, hv0, dv0⟩ := hE.so s l hF
      rw [hv0]
      rw [if_neg (by simp)]
      walk_at "g"
      refine ⟨d, v0, rfl, by rw [← hv0]; exact DGet.k (k := .inl s) hd, ?_⟩
      walk_at "g"
      refine Gx.newL (by simp) (fun a1 H1 E1 => ?_)
      walk_at "g"
      have sz : ((1 + ([l].map PP.size).sum : Nat) : Int) = ((PP.star l).size : Int) := by
        simp only [List.map_cons, List.map_nil, List.sum_cons, List.sum_nil, PP.size]
        omega
      refine ⟨[115, 116, 97, 114], a1, _, [l], most, rfl, SqL.of E1.at_, .cons (Gx.dp_same E1.same _ _ dv0) .nil, by simp, ?_, ?_⟩
      · intro hle H2 vl s2 dl
        rw [sz] at hle dl
        have dl : Dp K H2 vl (partD (.star l)) := dl
        have s02 := E1.same.trans s2
        have hd2 := s02 _ _ hd
        walk_at "g"
        refine lockE hd2 True.intro (fun od => dcX ?_)
        have eH : (upd H2 d (.frz od (.dK kvs))) d = some (.frz od (.dK kvs)) := upd_same
        have hTup : Gx.Tups K H2 (upd H2 d (.frz od (.dK kvs))) := tupsU hd2 (fun _ z => nomatch z) (fun _ _ z => nomatch z)
        obtain ⟨HL, hHL⟩ : ∃ HL, HL = upd H2 d (.frz od (.dK kvs)) := ⟨_, rfl⟩
        rw [← hHL] at eH hTup ⊢
        have hEL : EqD K HL kvs F := (hE.same s02).mono fun v p z => Gx.dp_tups hTup _ _ (noL_part p) z
        have dlL := Gx.dp_tups hTup _ _ (noL_part _) dl
        have keepL : ∀ c u, c ≠ d → H2 c = some u → HL c = some u := fun c u hc e => by rw [hHL, upd_ne hc]; exact e
        have backL : ∀ c, HL c = none → H2 c = none ∧ c ≠ d := fun c e => by
          have hc : c ≠ d := fun z => by rw [z, eH] at e; cases e
          refine ⟨?_, hc⟩
          rw [hHL, upd_ne hc] at e
          exact e
        walk_at "g"
        refine ⟨d, od, rfl, .inl ⟨kvs, eH, fun D nD => ?_⟩⟩
        obtain ⟨nD2, nDd⟩ := backL D nD
        have nDH : H D = none := fresh_of s02 nD2
        refine dc_keys (fun i H' => Same HL H' ∧ ∃ kv', H' D = some (.dK kv') ∧ EqD K H' kv' (partE F s l kvs i) ∧ kv'.length ≤ i ∧ ∀ t q, partE F s l kvs i t = some q → (q.size : Int) ≤ most) ⟨Gx.Same.put (Same.refl HL) nD, [], upd_same, ?_, Nat.le_refl _, ?_⟩ (fun i H' _ z => z.1 _ _ eH) ?_ ?_
        · have e0 : partE F s l kvs 0 = fun _ => none := by
            funext t
            unfold partE
            rw [if_neg (by simp)]
          rw [e0]
          exact ⟨List.nodup_nil, fun _ _ => rfl, (fun _ _ z => nomatch z), fun k hk => by simp at hk⟩
        · intro t q0 hq0
          unfold partE at hq0
          rw [if_neg (by simp)] at hq0
          cases hq0
        · rintro i k v H' hkv ⟨s', kv', e', hE', hl', hb'⟩
          have hik := (List.getElem?_eq_some_iff.mp hkv).1
          obtain ⟨t, p, rfl, hFt⟩ := key_at hE hkv
          have hd' := s' _ _ eH
          show gName 4 (V.int t) _ _ _
          walk_at "g"
          refine ⟨rfl, ?_⟩
          walk_at "g"
          refine Gx.iteDn (fun hne => ?_) (fun he => ?_)
          · walk_at "g"
            obtain ⟨v', hv', dv'⟩ := hEL.so t p hFt
            refine ⟨d, v', rfl, by rw [← hv']; exact DGet.frz (k := .inl t) hd', ?_⟩
            walk_at "g"
            have hkv' : partE F s l kvs (i + 1) = _ := (partE_put hkv hFt hne).symm
            obtain ⟨osg, odp⟩ := hok t p hFt
            refine ⟨vl, v', .star l, p, most, rfl, Gx.dp_same s' _ _ dlL, Gx.dp_same s' _ _ dv', osg, odp, ?_, ?_⟩
            · intro hq H5 z s5 dz
              refine ⟨kv', .inl t, rfl, s5 _ _ e', by rw [sizeLine_eq]; omega, Gx.Same.put (s'.trans s5) nD, _, upd_same, ?_, ?_, ?_⟩
              · rw [hkv']
                exact ((hE'.same s5).put t dz).updK (s5 _ _ e')
              · have := length_putK kv' (Sum.inl t : Key) z
                omega
              · intro t' q' h'
                rw [hkv'] at h'
                dsimp only at h'
                by_cases ht : t' = t
                · rw [if_pos ht] at h'
                  cases h'
                  rcases hq with rfl | hq
                  · rw [show inF (.star l) .e = .star l from if_pos rfl]
                    exact hle
                  · exact hq
                · rw [if_neg ht] at h'
                  exact hb' t' q' h'
            · intro hn H5 x s5 nd hx
              refine qe (fun z => hn (.inr (z.2 t _ ?_ ⟨l, hF⟩))) H5 x (fun c u hc e => s5 _ _ (s' _ _ (keepL c u hc (s02 _ _ e)))) (fresh_of s02 (backL x (fresh_of s' nd)).1) hx
              unfold solve1
              rw [hF]
              dsimp only
              rw [if_neg hne, hFt]
              rfl
          · subst he
            rw [← partE_skip hkv] at hE' hb'
            exact ⟨s', kv', e', hE', Nat.le_succ_of_le hl', hb'⟩
        · rintro H' ⟨s', kv', e', hE', hl', hb'⟩
          rw [partE_all hE hF] at hE' hb'
          refine ⟨s' _ _ eH, ?_⟩
          have eH' := s' _ _ eH
          refine q ⟨fun l' z => (by rw [hF] at z; cases z; exact hle), fun t q0 z _ => hb' t q0 z⟩ _ D kv' (fun c u e => ?_) (by rw [upd_ne nDd]; exact e') (hE'.mono fun v p z => Gx.dp_tups (tupsU eH' (fun _ z => nomatch z) (fun _ _ z => nomatch z)) _ _ (noL_part p) z) hl' (.inr nDH)
          by_cases hc : c = d
          · subst hc
            rw [hd] at e
            cases e
            exact upd_same
          · rw [upd_ne hc]
            exact s' _ _ (keepL c u hc (s02 _ _ e))
      · rw [sz]
        intro hn H2 x s2 nd hx
        exact qe (fun z => hn (z.1 l hF)) H2 x (fun c u _ e => (E1.same.trans s2) _ _ e) (fresh_of (E1.same.trans (Same.refl _)) (fresh_of (Same.refl _) nd)) hx
end
end K15
namespace K15
open PySem PySem.Spec PyProof.Rows L2
local macro_rules | `(tactic| walk_at "con") => `(tactic| first | with_reducible refine Gx.conE K15.ks0 ?_ | with_reducible refine Gx.conE K15.ks1 ?_ | with_reducible refine Gx.conE K15.ks2 ?_ | with_reducible refine Gx.conE K15.ks3 ?_ | with_reducible refine Gx.conE K15.ks4 ?_ | with_reducible refine Gx.conE K15.ks5 ?_ | with_reducible refine Gx.conE K15.ks6 ?_ | with_reducible refine Gx.conE K15.ks7 ?_ | with_reducible refine Gx.conE K15.ks8 ?_ | with_reducible refine Gx.conE K15.ks9 ?_ | with_reducible refine Gx.conE K15.ks10 ?_ | with_reducible refine Gx.conE K15.ks11 ?_ | with_reducible refine Gx.conE K15.ks12 ?_ | with_reducible refine Gx.conE K15.ks13 ?_ | with_reducible refine Gx.conE K15.ks14 ?_ | with_reducible refine Gx.conE K15.ks15 ?_)
section
variable {P : Program} {w : World} {K : PySem.W.Frag} {mg : Str → Option Value} {base : Heap}
/-- the rows at a: a list or a tuple of lists or tuples of numbers -/
def RowsAt (K : PySem.W.Frag) (H : Hp) (a : Addr) (rows : List (List Nat)) : Prop := ∃ vs : List V, Gx.Sq K H a vs ∧ vs.length = rows.length ∧ ∀ (i : Nat) (row : List Nat), rows[i]? = some row → ∃ r, vs[i]? = some (V.ref r) ∧ Gx.Sq K H r (row.map fun n => V.int (n : Nat))
theorem RowsAt.same {H H' : Hp} {a : Addr} {rows : List (List Nat)} (h : RowsAt K H a rows) (e : Same H H') : RowsAt K H' a rows :=
  let ⟨vs, h1, h2, h3⟩ := h
  ⟨vs, h1.same e, h2, fun i row hi => let ⟨r, a, b⟩ := h3 i row hi; ⟨r, a, b.same e⟩⟩
/-- the rows of an automaton: all targets are states -/
def RowsOk (rows : List (List Nat)) : Prop := 0 < rows.length ∧ rows.length ≤ 20000 ∧ ∀ row ∈ rows, row.length ≤ 1000 ∧ ∀ t ∈ row, t < rows.length
/-- states, each once, that lead to each other -/
def Closed (rows : List (List Nat)) (o : List Nat) : Prop := o.Nodup ∧ (∀ s ∈ o, s < rows.length) ∧ o[0]? = some 0 ∧ ∀ s ∈ o, ∀ t ∈ rows.getD s [], t ∈ o
def sp_reached (K : PySem.W.Frag) : Sp := fun vs H Q _ => ∃ (a : Addr) (rows : List (List Nat)), vs = [.ref a] ∧ RowsAt K H a rows ∧ RowsOk rows ∧ ∀ H' p o, Same H H' → H' p = some (.lst (o.map fun n => V.int (n : Nat))) → Closed rows o → Q (.ref p) H'
theorem nodup_sub : ∀ (l D : List Nat), l.Nodup → (∀ x ∈ l, x ∈ D) → l.length ≤ D.length
  | [], _, _, _ => Nat.zero_le _
  | x :: l, D, hn, hs => by
    obtain ⟨h1, h2⟩ := List.nodup_cons.mp hn
    have hx : x ∈ D := hs x List.mem_cons_self
    have ih := nodup_sub l (D.erase x) h2 fun y hy => by
      have hne : y ≠ x := fun e => h1 (e ▸ hy)
      exact (List.mem_erase_of_ne hne).2 (hs y (List.mem_cons_of_mem _ hy))
    have e := List.length_erase_of_mem hx
    have hp : 0 < D.length := List.length_pos_of_mem hx
    rw [List.length_cons]
    omega
theorem nodup_le (l : List Nat) (n : Nat) (h : l.Nodup) (g : ∀ x ∈ l, x < n) : l.length ≤ n := by
  have := nodup_sub l (List.range n) h fun x hx => List.mem_range.mpr (g x hx)
  rwa [List.length_range] at this
theorem nodup_snoc {l : List Nat} {x : Nat} (h : l.Nodup) (g : x ∉ l) : (l ++ [x]).Nodup := by
  rw [List.nodup_append]
  exact ⟨h, by simp, fun a ha b hb => by
    cases List.mem_singleton.mp hb
    exact fun e => g (e ▸ ha)⟩
theorem G_reached (T : Txt K mg w) : FnOk P w K mg base CX0 1 T.f_reached T.fd_reached ["rows"] (sp_reached K) := by
  refine T.F_reached.ok sc_reached (fun vs H Q E h => ?_) (fun cdv A outer s H vs Q E hr h => ?_)
  · obtain ⟨a, rows, rfl, _⟩ := h
    rfl
  · obtain ⟨a, rows, rfl, hR, ok, q⟩ := h
    refine ⟨_, ((pss_cons (ps_set (i := 1) sc_reached.nd rfl (Or.inl rfl) (pe_lst (pa_cons pe_int pa_nil)))
  (pss_cons (ps_set (i := 2) sc_reached.nd rfl (Or.inl rfl) (pe_disp (pps_cons pe_int pe_bl pps_nil) rfl rfl (by decide) (by decide)))
  (pss_cons (ps_set (i := 3) sc_reached.nd rfl (Or.inl rfl) pe_int)
  (pss_cons (ps_while PassesOwn.never (pt_cmpR op_lt (pv 3) (pe_callB Gx.cr_lenQ (by rfl) T.z_len bt_len (pa_cons (pv 1) pa_nil)) (nomark _))
  (pss_cons (ps_for PassesOwn.never rfl (Gx.pi_seq (pe_ix ix_seq (pv 0) (pe_ix ix_list (pv 1) (pv 3) (fun _ _ => rfl)) (fun _ _ => rfl))) (pg_name (i := 4) sc_reached.nd rfl (Or.inl rfl))
  (pss_one (ps_if (pt_cmp (pc_dnotin (Gx.hu1 hr.units) (pv 4) (pv 2)))
  (pss_cons (ps_dput (Gx.hu1 hr.units) (pv 2) (pv 4) pe_bl rfl)
  (pss_one (ps_expr (pe_bm PySem.F.plainAttrs_list PySem.F.slot_list_append PySem.F.type_list_append mt_append (pv 1) (pa_cons (pv 4) pa_nil)))))
  pss_nil)))
  (pss_one (ps_aug (i := 3) sc_reached.nd rfl (Or.inl rfl) pe_int ip_add))))
  (pss_one (ps_ret (pv 1)))))))), ?_⟩
    rw [st_reached]
    try dsimp only [cxOf]
    walk_at "g"
    refine Gx.newL (by show 1 ≤ 16777216; decide) fun p H1 E1 => ?_
    walk_at "g"
    intro d nd
    walk_at "g"
    refine ⟨upd_same, [(.inl 0, .bl true)], rfl, by decide, ?_⟩
    have np : H p = none := E1.fresh
    have nd0 : H d = none := E1.same.free nd
    have s2 : Same H (upd (upd H1 d (.dK [])) d (.dK (mergeK [] [(.inl 0, .bl true)]))) := Gx.Same.put (Gx.Same.put E1.same nd0) nd0
    have e2 : (upd (upd H1 d (.dK [])) d (.dK (mergeK [] [(.inl 0, .bl true)]))) d = some (.dK [(.inl 0, .bl true)]) := upd_same
    have p2 : (upd (upd H1 d (.dK [])) d (.dK (mergeK [] [(.inl 0, .bl true)]))) p = some (.lst [.int 0]) := by
      rw [upd_ne (ne_of_none E1.at_ nd), upd_ne (ne_of_none E1.at_ nd)]
      exact E1.at_
    generalize upd (upd H1 d (.dK [])) d (.dK (mergeK [] [(.inl 0, .bl true)])) = H2 at s2 e2 p2 ⊢
    walk_at "g"
    refine Gx.wh (W := fun m σ H' => ∃ (o : List Nat) (at_ : Nat) (y : Option V) (kvs : List (Key × V)), Same H H' ∧ H' p = some (.lst (o.map fun n => V.int (n : Nat))) ∧ H' d = some (.dK kvs) ∧ kvs.length ≤ o.length ∧ (∀ s : Nat, (valV kvs (.inl (s : Nat))).isSome = decide (s ∈ o)) ∧
        o.Nodup ∧ (∀ s ∈ o, s < rows.length) ∧ o[0]? = some 0 ∧ at_ ≤ o.length ∧ (∀ i, i < at_ → ∀ t ∈ rows.getD (o.getD i 0) [], t ∈ o) ∧ m = rows.length - at_ ∧ σ = [some (.ref a), some (.ref p), some (.ref d), some (.int at_), y])
      (m0 := rows.length) ⟨[0], 0, none, _, s2, p2, e2, Nat.le_refl _, fun s => ?_, by simp, fun s hs => by cases List.mem_singleton.mp hs; exact ok.1, rfl, Nat.zero_le _, fun i hi => absurd hi (Nat.not_lt_zero _), rfl, rfl⟩ ?_
    · by_cases z : s = 0
      · subst z
        rfl
      · rw [valV_neg (by intro e; injection e with e; omega)]
        simp [z, valV]
    · rintro m σ H3 ⟨o, at_, y, kvs, s3, p3, d3, hk, hv, nd, lt, h0, ha, cl, rfl, rfl⟩
      have hS3 := SqL.of (K := K) p3
      have hol := nodup_le o rows.length nd lt
      have hn := ok.2.1
      walk_at "g"
      refine Gx.iteD (fun c => ⟨_, fun σ' H' z => z, ?_⟩) (fun c => ?_)
      · have c' : at_ < o.length := by omega
        obtain ⟨s, hs⟩ : ∃ s, o[at_]? = some s := ⟨_, List.getElem?_eq_getElem c'⟩
        have hsn := lt s (List.mem_of_getElem? hs)
        obtain ⟨row, hrw⟩ : ∃ row, rows[s]? = some row := ⟨_, List.getElem?_eq_getElem hsn⟩
        obtain ⟨hrl, hrt⟩ := ok.2.2 row (List.mem_of_getElem? hrw)
        obtain ⟨vs, hq, hl, hrow⟩ := id hR
        obtain ⟨r, hr1, hr2⟩ := hrow s row hrw
        walk_at "g"
        refine Gx.ixL hS3 (Gx.atI_of (k := at_) rfl (v := .int (s : Nat)) (by rw [List.getElem?_map, hs]; rfl)) ?_
        walk_at "g"
        refine Gx.ixQ (hq.same s3) rfl hr1 ?_
        walk_at "g"
        refine Gx.for_sq (H0 := H) (fun i σ H' => ∃ (o' : List Nat) (y : Option V) (kvs : List (Key × V)), Same H H' ∧ H' p = some (.lst (o'.map fun n => V.int (n : Nat))) ∧ H' d = some (.dK kvs) ∧ kvs.length ≤ o'.length ∧ (∀ s : Nat, (valV kvs (.inl (s : Nat))).isSome = decide (s ∈ o')) ∧
          o'.Nodup ∧ (∀ s ∈ o', s < rows.length) ∧ o <+: o' ∧ (∀ t ∈ row.take i, t ∈ o') ∧ σ = [some (.ref a), some (.ref p), some (.ref d), some (.int at_), y]) hr2 ⟨o, y, kvs, s3, p3, d3, hk, hv, nd, lt, List.prefix_refl o, fun t ht => by simp at ht, rfl⟩ (fun i σ H' _ ⟨_, _, _, e, _⟩ => e) ?_ ?_
        · rintro i x σ H4 hi ⟨o', y, kvs, s4, p4, d4, hk, hv, nd, lt, pre, tk, rfl⟩
          rw [List.getElem?_map] at hi
          cases hti : row[i]? with
          | none => rw [hti] at hi; cases hi
          | some t =>
            rw [hti] at hi
            obtain rfl := Option.some.inj hi
            have ht := hrt t (List.mem_of_getElem? hti)
            have htake : ∀ x ∈ row.take (i + 1), x ∈ row.take i ∨ x = t := fun x hx => by
              rw [List.take_add_one, hti, Option.toList_some] at hx
              rcases List.mem_append.mp hx with h | h
              · exact .inl h
              · exact .inr (List.mem_singleton.mp h)
            have hol' := nodup_le o' rows.length nd lt
            walk_at "g"
            refine ⟨_, _, rfl, DGet.k (k := .inl (t : Nat)) d4, _, rfl, ?_⟩
            rw [hv t]
            refine Gx.iteDn (fun hin => ?_) (fun hin => ?_)
            · walk_at "g"
              refine ⟨_, _, rfl, DPut.k (k := .inl (t : Nat)) d4 (by rw [sizeLine_eq]; omega), ?_⟩
              have p5 : (upd H4 d (.dK (putK kvs (.inl (t : Nat)) (.bl true)))) p = some (.lst (o'.map fun n => V.int (n : Nat))) := by
                rw [upd_ne (ne_of p4 d4 (by intro z; cases z))]
                exact p4
              have d5 : (upd H4 d (.dK (putK kvs (.inl (t : Nat)) (.bl true)))) d = some (.dK (putK kvs (.inl (t : Nat)) (.bl true))) := upd_same
              have s5 : Same H (upd H4 d (.dK (putK kvs (.inl (t : Nat)) (.bl true)))) := Gx.Same.put s4 nd0
              generalize upd H4 d (.dK (putK kvs (.inl (t : Nat)) (.bl true))) = H5 at p5 d5 s5 ⊢
              have hk5 := length_putK kvs (.inl (t : Nat)) (V.bl true)
              walk_at "g"
              refine Gx.app p5 (by rw [List.length_map, sizeLine_eq]; omega) ?_
              walk_at "g"
              refine ⟨o' ++ [t], _, _, Gx.Same.put s5 np, by rw [upd_same, List.map_append]; rfl, by rw [upd_ne (ne_of d5 p5 (by intro z; cases z))]; exact d5, by rw [List.length_append, List.length_singleton]; omega, fun s => ?_, nodup_snoc nd hin, fun s hs => ?_, pre.trans (List.prefix_append _ _), fun x hx => ?_, rfl⟩
              · rw [valV_put]
                by_cases z : s = t
                · subst z
                  simp
                · rw [if_neg (by intro e; injection e with e; omega), hv s]
                  simp [z]
              · rcases List.mem_append.mp hs with h | h
                · exact lt s h
                · cases List.mem_singleton.mp h
                  exact ht
              · rcases htake x hx with h | rfl
                · exact List.mem_append_left _ (tk x h)
                · exact List.mem_append_right _ (List.mem_singleton.mpr rfl)
            · walk_at "g"
              refine ⟨o', _, _, s4, p4, d4, hk, hv, nd, lt, pre, fun x hx => ?_, rfl⟩
              rcases htake x hx with h | rfl
              · exact tk x h
              · exact hin
        · rintro σ H4 ⟨o', y, kvs, s4, p4, d4, hk, hv, nd, lt, pre, tk, rfl⟩
          rw [List.length_map, List.take_length] at tk
          obtain ⟨z, rfl⟩ := pre
          walk_at "g"
          refine ⟨rows.length - (at_ + 1), by omega, o ++ z, at_ + 1, _, _, s4, p4, d4, hk, hv, nd, lt, by rw [List.getElem?_append_left (by omega)]; exact h0, by rw [List.length_append]; omega, fun i hi t ht => ?_, rfl, rfl⟩
          rw [show (o ++ z).getD i 0 = o.getD i 0 by rw [List.getD_eq_getElem?_getD, List.getElem?_append_left (by omega), List.getD_eq_getElem?_getD]] at ht
          by_cases e : i = at_
          · subst e
            rw [show o.getD i 0 = s by rw [List.getD_eq_getElem?_getD, hs]; rfl, List.getD_eq_getElem?_getD, hrw, Option.getD_some] at ht
            exact tk t ht
          · exact List.mem_append_left _ (cl i (by omega) t ht)
      · walk_at "g"
        refine q H3 p o s3 p3 ⟨nd, lt, h0, fun s hs t ht => ?_⟩
        obtain ⟨i, hi⟩ := List.mem_iff_getElem?.mp hs
        have hil := (List.getElem?_eq_some_iff.mp hi).1
        refine cl i (by omega) t ?_
        rw [show o.getD i 0 = s by rw [List.getD_eq_getElem?_getD, hi]; rfl]
        exact ht
def keyN (rows : List (List Nat)) (mk : Nat → Nat) (s : Nat) : NestedKey := .tup [.num (mk s : Nat), .tup ((rows.getD s []).map fun t => .num (mk t : Nat))]
/-- the finer marks: two states have the same one if they had the same mark, and so had what they lead to; 0 .. c - 1, each is there -/
def Ref (rows : List (List Nat)) (o : List Nat) (mk mk' : Nat → Nat) (c : Nat) : Prop :=
  (∀ s ∈ o, ∀ t ∈ o, (mk' s = mk' t ↔ (mk s = mk t ∧ (rows.getD s []).map mk = (rows.getD t []).map mk))) ∧ (∀ s ∈ o, mk' s < c) ∧ ∀ j, j < c → ∃ s, s ∈ o ∧ mk' s = j
def sp_refined (K : PySem.W.Frag) : Sp := fun vs H Q _ => ∃ (a b d : Addr) (rows : List (List Nat)) (o : List Nat) (mk : Nat → Nat) (n : Nat), vs = [.ref a, .ref b, .ref d] ∧ RowsAt K H a rows ∧ RowsOk rows ∧ SqL K H b (o.map fun n => V.int (n : Nat)) ∧ Closed rows o ∧ Gx.DM H d n o mk ∧
  ∀ H' u f c mk', Same H H' → H' u = some (.tup [.ref f, .int (c : Nat)]) → Gx.DM H' f o.length o mk' → Ref rows o mk mk' c → Q (.ref u) H'
/-- keys numbered in the order they came -/
def NumOk (ks : List NestedKey) (kvs : List (NestedKey × V)) : Prop := kvs.length = ks.length ∧ ks.Nodup ∧ ∀ k, valV kvs k = if k ∈ ks then some (V.int (ks.idxOf k : Nat)) else none
theorem NumOk.put {ks : List NestedKey} {kvs : List (NestedKey × V)} (h : NumOk ks kvs) {k : NestedKey} (n : k ∉ ks) : NumOk (ks ++ [k]) (putK kvs k (.int (ks.length : Nat))) := by
  have hv : valV kvs k = none := by rw [h.2.2 k, if_neg n]
  refine ⟨by rw [putK_new _ hv, List.length_append, List.length_append, h.1]; rfl, ?_, fun j => ?_⟩
  · rw [List.nodup_append]
    exact ⟨h.2.1, by simp, fun a ha b hb => by
      cases List.mem_singleton.mp hb
      exact fun e => n (e ▸ ha)⟩
  · rw [valV_put]
    by_cases e : j = k
    · subst e
      rw [if_pos rfl, if_pos (by simp), List.idxOf_append, if_neg n]
      simp
    · rw [if_neg e, h.2.2 j]
      by_cases m : j ∈ ks
      · rw [if_pos m, if_pos (List.mem_append_left _ m), List.idxOf_append, if_pos m]
      · rw [if_neg m, if_neg (by simp [m, e])]
theorem idx_app {ks : List NestedKey} {k j : NestedKey} (h : j ∈ ks) : (ks ++ [k]).idxOf j = ks.idxOf j := by rw [List.idxOf_append, if_pos h]
theorem dep_nums (f : Nat → Nat) : ∀ l : List Nat, NestedKey.depthAll (l.map fun t => NestedKey.num (f t : Nat)) = 0
  | [] => rfl
  | x :: l => by rw [List.map_cons, NestedKey.depthAll, dep_nums f l]; rfl
theorem dep_key (rows : List (List Nat)) (mk : Nat → Nat) (s : Nat) : (keyN rows mk s).depth ≤ 8 := by
  unfold keyN
  simp only [NestedKey.depth, NestedKey.depthAll, dep_nums]
  omega
theorem key_iff (rows : List (List Nat)) (mk : Nat → Nat) (s t : Nat) : keyN rows mk s = keyN rows mk t ↔ (mk s = mk t ∧ (rows.getD s []).map mk = (rows.getD t []).map mk) := by
  have inj : ∀ l l' : List Nat, (l.map fun t => NestedKey.num (mk t : Nat)) = (l'.map fun t => NestedKey.num (mk t : Nat)) ↔ l.map mk = l'.map mk := by
    intro l
    induction l with
    | nil => intro l'; cases l' <;> simp
    | cons x l ih =>
      intro l'
      cases l' with
      | nil => simp
      | cons y l' =>
        simp only [List.map_cons, List.cons.injEq, ih, NestedKey.num.injEq]
        constructor
        · rintro ⟨h1, h2⟩; exact ⟨by omega, h2⟩
        · rintro ⟨h1, h2⟩; exact ⟨by omega, h2⟩
  unfold keyN
  simp only [NestedKey.tup.injEq, List.cons.injEq, NestedKey.num.injEq, and_true, inj]
  constructor
  · rintro ⟨h1, h2⟩; exact ⟨by omega, h2⟩
  · rintro ⟨h1, h2⟩; exact ⟨by omega, h2⟩
theorem DM.get {H : Hp} {d : Addr} {n : Nat} {o : List Nat} {f : Nat → Nat} (h : Gx.DM H d n o f) {s : Nat} (hs : s ∈ o) : DGet H d (.int (s : Nat)) (some (.int (f s : Nat))) := by
  obtain ⟨kvs, e, _, hv⟩ := h
  have := DGet.k (k := .inl (s : Nat)) e
  rw [hv s hs] at this
  exact this
theorem G_refined (T : Txt K mg w) : FnOk P w K mg base CX0 1 T.f_refined T.fd_refined ["rows", "order", "marks"] (sp_refined K) := by
  refine T.F_refined.ok sc_refined (fun vs H Q E h => ?_) (fun cdv A outer s H vs Q E hr h => ?_)
  · obtain ⟨a, b, d, rows, o, mk, n, rfl, _⟩ := h
    rfl
  · obtain ⟨a, b, d, rows, o, mk, n, rfl, hR, ok, hS, cl, hm, q⟩ := h
    have hol := nodup_le o rows.length cl.1 cl.2.1
    have hn := ok.2.1
    refine ⟨_, ((pss_cons (ps_set (i := 3) sc_refined.nd rfl (Or.inl rfl) (Gx.pe_nnew))
  (pss_cons (ps_set (i := 4) sc_refined.nd rfl (Or.inl rfl) pe_dnewK)
  (pss_cons (ps_for PassesOwn.never rfl (pi_list (pv 1)) (pg_name (i := 5) sc_refined.nd rfl (Or.inl rfl))
  (pss_cons (ps_set (i := 6) sc_refined.nd rfl (Or.inl rfl) (pe_ix ix_seq (pv 0) (pv 5) (fun _ _ => rfl)))
  (pss_cons (ps_set (i := 7) sc_refined.nd rfl (Or.inl rfl) (pe_tup (pa_cons (pe_dget (Gx.hu1 hr.units) (pv 2) (pv 5) (fun _ _ => rfl)) (pa_cons (pe_callTy Gx.cr_tupL (by rfl) T.z_tuple bt_tuple (pa_cons (pe_lc (own := [("target", 8)]) (g := (gName 8)) (tt := tYes) (by rfl) sc_refined.nd (Gx.pi_seq (pv 6)) (blkOk_by (N := ["rows", "order", "marks", "numbers", "finer", "state", "row", "sign", "target"]) (sc := defScope s_refined) (by decide +kernel)) (fun _ _ _ _ _ => (pg_name (i := 8) sc_refined.nd rfl (Or.inl rfl))) (fun _ _ _ _ _ => pts_nil) (fun _ _ _ _ _ => (pe_dget (Gx.hu1 hr.units) (pv 2) (pv 8) (fun _ _ => rfl)))) pa_nil)) pa_nil))))
  (C8.pss_cut (ps_if (pt_cmp (Gx.pc_nnotin hr.units (pv 7) (pv 3)))
  (pss_one (Gx.ps_nput hr.units (pv 3) (pv 7) (pe_callB Gx.cr_lenN (by rfl) T.z_len bt_len (pa_cons (pv 3) pa_nil)) rfl))
  pss_nil)
  (pss_one (ps_dput (Gx.hu1 hr.units) (pv 4) (pv 5) (Gx.pe_nget hr.units (pv 3) (pv 7) (fun _ _ => rfl)) rfl))))))
  (pss_one (ps_ret (pe_tup (pa_cons (pv 4) (pa_cons (pe_callB Gx.cr_lenN (by rfl) T.z_len bt_len (pa_cons (pv 3) pa_nil)) pa_nil))))))))), ?_⟩
    rw [st_refined]
    try dsimp only [cxOf]
    walk_at "g"
    intro p H1 np dp ap
    have s1 : Same H H1 := fun x u e => by rw [ap x (ne_of_none e np)]; exact e
    walk_at "g"
    intro f nf
    have nf0 : H f = none := s1.free nf
    have s2 : Same H (upd H1 f (.dK [])) := Gx.Same.put s1 nf0
    have f2 : (upd H1 f (.dK [])) f = some (.dK []) := upd_same
    have d2 : Gx.DN P w (upd H1 f (.dK [])) p [] := dp.same (Gx.ext1 (o := .dK []) nf).same
    generalize upd H1 f (.dK []) = H2 at s2 f2 d2 ⊢
    walk_at "g"
    refine ⟨⟨_, s2.seq hS⟩, for_list (K := K) (a := b) (xs := o.map fun n => V.int (n : Nat)) (fun i σ H' => ∃ (ks : List NestedKey) (kvs : List (NestedKey × V)) (kf : List (Key × V)) (y1 y2 y3 y4 : Option V), Same H H' ∧ Gx.DN P w H' p kvs ∧ NumOk ks kvs ∧ ks.length ≤ i ∧ H' f = some (.dK kf) ∧ kf.length ≤ i ∧
        (∀ s ∈ o.take i, keyN rows mk s ∈ ks ∧ valV kf (.inl (s : Nat)) = some (.int (ks.idxOf (keyN rows mk s) : Nat))) ∧ (∀ k ∈ ks, ∃ s, s ∈ o.take i ∧ keyN rows mk s = k) ∧
        σ = [some (.ref a), some (.ref b), some (.ref d), some (.ref p), some (.ref f), y1, y2, y3, y4])
      ⟨[], [], [], none, none, none, none, s2, d2, ⟨rfl, List.nodup_nil, fun k => by simp [valV]⟩, Nat.le_refl _, f2, Nat.le_refl _, fun s hs => by simp at hs, fun k hk => by simp at hk, rfl⟩ (fun i σ H' _ ⟨_, _, _, _, _, _, _, e, _⟩ => e.seq hS) ?_ ?_⟩
    · rintro i x σ H3 hi ⟨ks, kvs, kf, y1, y2, y3, y4, s3, d3, nk, hki, f3, hfi, hval, hsur, rfl⟩
      rw [List.getElem?_map] at hi
      cases hoi : o[i]? with
      | none => rw [hoi] at hi; cases hi
      | some s =>
        rw [hoi] at hi
        obtain rfl := Option.some.inj hi
        have hso := List.mem_of_getElem? hoi
        have hil := (List.getElem?_eq_some_iff.mp hoi).1
        have hsn := cl.2.1 s hso
        obtain ⟨row, hrw⟩ : ∃ row, rows[s]? = some row := ⟨_, List.getElem?_eq_getElem hsn⟩
        have hgd : rows.getD s [] = row := by rw [List.getD_eq_getElem?_getD, hrw]; rfl
        have hto : ∀ t ∈ row, t ∈ o := fun t ht => cl.2.2.2 s hso t (by rw [hgd]; exact ht)
        obtain ⟨hrl, hrt⟩ := ok.2.2 row (List.mem_of_getElem? hrw)
        obtain ⟨vs, hq, hl, hrow⟩ := hR.same s3
        obtain ⟨r, hr1, hr2⟩ := hrow s row hrw
        walk_at "g"
        refine Gx.ixQ hq rfl hr1 ?_
        walk_at "g"
        refine ⟨_, _, rfl, DM.get (hm.same s3) hso, ?_⟩
        walk_at "g"
        refine Gx.lc_sq hr2 fun D nD => ⟨fun i H' => Same H3 H' ∧ H' D = some (.lst ((row.take i).map fun t => V.int (mk t : Nat))), ⟨Gx.Same.put (Same.refl H3) nD, upd_same⟩, fun i H' _ z => z.1, ?_, ?_⟩
        · rintro j x H4 hj ⟨s4, e4⟩
          rw [List.getElem?_map] at hj
          cases htj : row[j]? with
          | none => rw [htj] at hj; cases hj
          | some t =>
            rw [htj] at hj
            obtain rfl := Option.some.inj hj
            walk_at "g"
            refine ⟨rfl, ?_⟩
            walk_at "g"
            refine ⟨_, _, rfl, DM.get (hm.same (s3.trans s4)) (hto t (List.mem_of_getElem? htj)), ?_⟩
            refine ⟨_, e4, by rw [List.length_map, List.length_take, sizeLine_eq]; omega, Gx.Same.put s4 nD, ?_⟩
            rw [upd_same, List.take_add_one, htj, Option.toList_some, List.map_append]
            rfl
        · rintro H4 ⟨s4, e4⟩
          rw [List.length_map, List.take_length] at e4
          walk_at "g"
          refine Gx.tupL (SqL.of e4) fun c nc => ?_
          have E5 := Gx.ext1 (o := .tup (row.map fun t => V.int (mk t : Nat))) nc
          generalize upd H4 c (.tup (row.map fun t => V.int (mk t : Nat))) = H5 at E5 ⊢
          walk_at "g"
          refine Gx.newT (by show 2 ≤ 16777216; decide) fun u H6 E6 => ?_
          have s36 : Same H3 H6 := (s4.trans E5.same).trans E6.same
          have s6 := s3.trans s36
          have nku : Gx.NK H6 (keyN rows mk s) (.ref u) := ⟨u, rfl, .tup E6.at_ (.cons (.int _) (.cons (.tup (E6.same _ _ E5.at_) (by
            rw [hgd]
            have := Gx.NVs.ints (H := H6) (row.map fun t => (mk t : Int))
            rw [List.map_map, List.map_map] at this
            exact this)) .nil)), dep_key _ _ _⟩
          have d6 := d3.same s36
          have f6 := s36 _ _ f3
          walk_at "g"
          refine ⟨fun σ H' => ∃ (ks' : List NestedKey) (kvs' : List (NestedKey × V)), Same H H' ∧ Gx.DN P w H' p kvs' ∧ NumOk ks' kvs' ∧ ks'.length ≤ i + 1 ∧ H' f = some (.dK kf) ∧ keyN rows mk s ∈ ks' ∧ (∀ k ∈ ks, k ∈ ks' ∧ ks'.idxOf k = ks.idxOf k) ∧ (∀ k ∈ ks', k ∈ ks ∨ k = keyN rows mk s) ∧ Gx.NK H' (keyN rows mk s) (.ref u) ∧
            ∃ y : Option V, σ = [some (.ref a), some (.ref b), some (.ref d), some (.ref p), some (.ref f), some (.int (s : Nat)), some (.ref r), some (.ref u), y], ?_, ?_⟩
          · walk_at "g"
            refine ⟨_, _, _, rfl, d6, nku, _, rfl, ?_⟩
            rw [nk.2.2]
            by_cases hin : keyN rows mk s ∈ ks
            · rw [if_pos hin, if_neg (by rw [Option.isSome_some]; decide)]
              walk_at "g"
              exact ⟨ks, kvs, s6, d6, nk, by omega, f6, hin, fun k hk => ⟨hk, rfl⟩, fun k hk => .inl hk, nku, _, rfl⟩
            · rw [if_neg hin, if_pos (show (!Option.isSome (none : Option V)) = true from rfl)]
              walk_at "g"
              refine ⟨_, _, rfl, d6, ?_⟩
              walk_at "g"
              refine ⟨_, _, _, rfl, d6, nku, by rw [nk.1, sizeLine_eq]; omega, fun H7 d7 k7 => ?_⟩
              rw [nk.1] at d7
              have hpf : f ≠ p := by
                obtain ⟨xs, e, _⟩ := d6
                exact ne_of f6 e (by intro z; cases z)
              have s7 : Same H H7 := fun x v e => by rw [k7 x (ne_of_none e np)]; exact s6 x v e
              have t67 : ∀ b ys, H6 b = some (.tup ys) → H7 b = some (.tup ys) := fun b ys e => by
                obtain ⟨xs, ep, _⟩ := d6
                rw [k7 b (ne_of e ep (by intro z; cases z))]
                exact e
              refine ⟨ks ++ [keyN rows mk s], _, s7, d7, nk.put hin, by rw [List.length_append, List.length_singleton]; omega, by rw [k7 f hpf]; exact f6, List.mem_append_right _ (List.mem_singleton.mpr rfl), fun k hk => ⟨List.mem_append_left _ hk, idx_app hk⟩, fun k hk => ?_, ?_, _, rfl⟩
              · rcases List.mem_append.mp hk with h | h
                · exact .inl h
                · exact .inr (List.mem_singleton.mp h)
              · obtain ⟨b, e1, e2, e3⟩ := nku
                exact ⟨b, e1, Gx.NV.keeps t67 _ _ e2, e3⟩
          · rintro σ H7 ⟨ks', kvs', s7, d7, nk', hk', f7, hin, hold, hnew, nku', y, rfl⟩
            walk_at "g"
            refine ⟨_, _, _, _, rfl, d7, nku', (by rw [nk'.2.2, if_pos hin]), ?_⟩
            walk_at "g"
            refine ⟨_, _, rfl, DPut.k (k := .inl (s : Nat)) f7 (by rw [sizeLine_eq]; omega), ?_⟩
            have hlp := length_putK kf (.inl (s : Nat)) (V.int (ks'.idxOf (keyN rows mk s) : Nat))
            have hpf : p ≠ f := by
              obtain ⟨xs, e, _⟩ := d7
              exact (ne_of f7 e (by intro z; cases z)).symm
            have htk : ∀ x ∈ o.take (i + 1), x ∈ o.take i ∨ x = s := fun x hx => by
              rw [List.take_add_one, hoi, Option.toList_some] at hx
              rcases List.mem_append.mp hx with h | h
              · exact .inl h
              · exact .inr (List.mem_singleton.mp h)
            have hkt : ∀ x ∈ o.take i, x ∈ o.take (i + 1) := fun x hx => by
              rw [List.take_add_one]
              exact List.mem_append_left _ hx
            refine ⟨ks', kvs', _, _, _, _, _, Gx.Same.put s7 nf0, d7.keeps (fun b ys e => ?_) (upd_ne hpf), nk', hk', upd_same, by omega, fun x hx => ?_, fun k hk => ?_, rfl⟩
            · rw [upd_ne (ne_of e f7 (by intro z; cases z))]
              exact e
            · by_cases e : x = s
              · subst e
                exact ⟨hin, by rw [valV_put, if_pos rfl]⟩
              · rcases htk x hx with h | h
                · obtain ⟨g1, g2⟩ := hval x h
                  obtain ⟨g3, g4⟩ := hold _ g1
                  refine ⟨g3, ?_⟩
                  rw [valV_put, if_neg (by intro z; injection z with z; omega), g2, g4]
                · exact absurd h e
            · rcases hnew k hk with h | rfl
              · obtain ⟨x, h1, h2⟩ := hsur k h
                exact ⟨x, hkt x h1, h2⟩
              · exact ⟨s, by rw [List.take_add_one, hoi, Option.toList_some]; exact List.mem_append_right _ (List.mem_singleton.mpr rfl), rfl⟩
    · rintro σ H3 ⟨ks, kvs, kf, y1, y2, y3, y4, s3, d3, nk, hki, f3, hfi, hval, hsur, rfl⟩
      rw [List.length_map, List.take_length] at hval hsur
      walk_at "g"
      refine ⟨_, _, rfl, d3, ?_⟩
      walk_at "g"
      refine Gx.newT (by show 2 ≤ 16777216; decide) fun u H4 E4 => ?_
      walk_at "g"
      rw [nk.1] at E4
      refine q H4 u f ks.length (fun s => ks.idxOf (keyN rows mk s)) (s3.trans E4.same) E4.at_ ⟨kf, E4.same _ _ f3, by rw [List.length_map] at hfi; exact hfi, fun s hs => (hval s hs).2⟩ ⟨fun s hs t ht => ?_, fun s hs => List.idxOf_lt_length_of_mem (hval s hs).1, fun j hj => ?_⟩
      · rw [← key_iff]
        constructor
        · intro e
          have h1 := List.getElem_idxOf (List.idxOf_lt_length_of_mem (hval s hs).1)
          have h2 := List.getElem_idxOf (List.idxOf_lt_length_of_mem (hval t ht).1)
          rw [← h1, ← h2]
          congr 1
        · intro e
          show ks.idxOf _ = ks.idxOf _
          rw [e]
      · obtain ⟨s, hs, e⟩ := hsur _ (List.getElem_mem hj)
        refine ⟨s, hs, ?_⟩
        show ks.idxOf _ = j
        rw [e]
        exact nk.2.1.idxOf_getElem j hj
/-! ### marks, in plain Lean -/
/-- the marks 0 .. c - 1, each is there -/
def Onto (o : List Nat) (mk : Nat → Nat) (c : Nat) : Prop := (∀ s ∈ o, mk s < c) ∧ ∀ j, j < c → ∃ s, s ∈ o ∧ mk s = j
theorem nodup_map_inj {α : Type} {f : α → Nat} : ∀ {l : List α}, l.Nodup → (∀ x ∈ l, ∀ y ∈ l, f x = f y → x = y) → (l.map f).Nodup
  | [], _, _ => List.nodup_nil
  | x :: l, h, g => by
    obtain ⟨h1, h2⟩ := List.nodup_cons.mp h
    rw [List.map_cons, List.nodup_cons]
    refine ⟨fun hx => ?_, nodup_map_inj h2 fun a ha b hb => g a (List.mem_cons_of_mem _ ha) b (List.mem_cons_of_mem _ hb)⟩
    obtain ⟨y, hy, e⟩ := List.mem_map.mp hx
    exact h1 ((g y (List.mem_cons_of_mem _ hy) x List.mem_cons_self e) ▸ hy)
theorem nodup_full {l : List Nat} {n : Nat} (h : l.Nodup) (g : ∀ x ∈ l, x < n) (e : l.length = n) : ∀ x, x < n → x ∈ l := fun x hx => by
  by_cases m : x ∈ l
  · exact m
  · have := nodup_le (x :: l) n (List.nodup_cons.mpr ⟨m, h⟩) fun y hy => by
      rcases List.mem_cons.mp hy with rfl | hy
      · exact hx
      · exact g y hy
    rw [List.length_cons] at this
    omega
/-- a state for each mark -/
theorem reps {o : List Nat} {mk : Nat → Nat} {c : Nat} (h : ∀ j, j < c → ∃ s, s ∈ o ∧ mk s = j) : ∃ rep : Nat → Nat, ∀ j, j < c → rep j ∈ o ∧ mk (rep j) = j :=
  ⟨fun j => if q : j < c then (h j q).choose else 0, fun j q => by simp only [q, dite_true]; exact (h j q).choose_spec⟩
theorem onto_le {o : List Nat} {mk : Nat → Nat} {c : Nat} (h : Onto o mk c) : c ≤ o.length := by
  obtain ⟨rep, hr⟩ := reps h.2
  have nd : ((List.range c).map rep).Nodup := nodup_map_inj List.nodup_range fun x hx y hy e => by
    rw [← (hr x (List.mem_range.mp hx)).2, ← (hr y (List.mem_range.mp hy)).2, e]
  have := nodup_sub _ o nd fun x hx => by
    obtain ⟨j, hj, rfl⟩ := List.mem_map.mp hx
    exact (hr j (List.mem_range.mp hj)).1
  rwa [List.length_map, List.length_range] at this
theorem onto_mono {o : List Nat} {mk mk' : Nat → Nat} {c c' : Nat} (h : Onto o mk c) (h' : Onto o mk' c') (r : ∀ s ∈ o, ∀ t ∈ o, mk' s = mk' t → mk s = mk t) : c ≤ c' ∧ (c = c' → ∀ s ∈ o, ∀ t ∈ o, mk s = mk t → mk' s = mk' t) := by
  obtain ⟨rep, hr⟩ := reps h.2
  have nd : ((List.range c).map fun j => mk' (rep j)).Nodup := nodup_map_inj List.nodup_range fun x hx y hy e => by
    have hx := hr x (List.mem_range.mp hx)
    have hy := hr y (List.mem_range.mp hy)
    rw [← hx.2, ← hy.2]
    exact r _ hx.1 _ hy.1 e
  have lt : ∀ x ∈ (List.range c).map fun j => mk' (rep j), x < c' := fun x hx => by
    obtain ⟨j, hj, rfl⟩ := List.mem_map.mp hx
    exact h'.1 _ (hr j (List.mem_range.mp hj)).1
  have len : ((List.range c).map fun j => mk' (rep j)).length = c := by rw [List.length_map, List.length_range]
  refine ⟨by have := nodup_le _ c' nd lt; rwa [len] at this, fun e s hs t ht est => ?_⟩
  have full := nodup_full nd lt (len.trans e)
  obtain ⟨i, hi, ei⟩ := List.mem_map.mp (full (mk' s) (h'.1 s hs))
  obtain ⟨j, hj, ej⟩ := List.mem_map.mp (full (mk' t) (h'.1 t ht))
  have hi := hr i (List.mem_range.mp hi)
  have hj := hr j (List.mem_range.mp hj)
  have e1 := r _ hi.1 s hs ei
  have e2 := r _ hj.1 t ht ej
  have : i = j := by rw [← hi.2, ← hj.2, e1, e2, est]
  rw [← ei, ← ej, this]
/-- related states are alike: both final or not, and their moves lead to related states -/
def Bis (rows : List (List Nat)) (fin : List Bool) (R : Nat → Nat → Prop) : Prop := ∀ s t, R s t → fin.getD s false = fin.getD t false ∧ (rows.getD s []).length = (rows.getD t []).length ∧ ∀ k, k < (rows.getD s []).length → R ((rows.getD s []).getD k 0) ((rows.getD t []).getD k 0)
/-- marks that are alike exactly where states cannot be told apart -/
def Coarse (rows : List (List Nat)) (fin : List Bool) (o : List Nat) (mk : Nat → Nat) : Prop :=
  (∀ s ∈ o, ∀ t ∈ o, mk s = mk t → fin.getD s false = fin.getD t false ∧ (rows.getD s []).map mk = (rows.getD t []).map mk) ∧ ∀ R, Bis rows fin R → ∀ s ∈ o, ∀ t ∈ o, R s t → mk s = mk t
theorem map_of_rel {R : Nat → Nat → Prop} {mk : Nat → Nat} : ∀ {l l' : List Nat}, l.length = l'.length → (∀ k, k < l.length → R (l.getD k 0) (l'.getD k 0)) → (∀ x ∈ l, ∀ y ∈ l', R x y → mk x = mk y) → l.map mk = l'.map mk
  | [], [], _, _, _ => rfl
  | [], _ :: _, h, _, _ => by cases h
  | _ :: _, [], h, _, _ => by cases h
  | x :: l, y :: l', h, g, r => by
    rw [List.map_cons, List.map_cons, r x List.mem_cons_self y List.mem_cons_self (g 0 (Nat.succ_pos _)), map_of_rel (R := R) (Nat.succ.inj h) (fun k hk => g (k + 1) (Nat.succ_lt_succ hk)) fun a ha b hb => r a (List.mem_cons_of_mem _ ha) b (List.mem_cons_of_mem _ hb)]
/-- the way of the marks: i rounds done -/
def Marks (rows : List (List Nat)) (fin : List Bool) (o : List Nat) (i : Nat) (mk : Nat → Nat) (c : Nat) : Prop :=
  (∀ s ∈ o, ∀ t ∈ o, mk s = mk t → fin.getD s false = fin.getD t false) ∧ (∀ R, Bis rows fin R → ∀ s ∈ o, ∀ t ∈ o, R s t → mk s = mk t) ∧ ((i = 0 ∧ c = 0) ∨ (0 < i ∧ Onto o mk c)) ∧ i ≤ c
theorem Marks.stop {rows : List (List Nat)} {fin : List Bool} {o : List Nat} {i : Nat} {mk mk' : Nat → Nat} {c : Nat} (h : Marks rows fin o i mk c) (cl : Closed rows o) (r : Ref rows o mk mk' c) : Coarse rows fin o mk := by
  obtain ⟨m1, m2, m3, m4⟩ := h
  have h0 : 0 ∈ o := List.mem_of_getElem? cl.2.2.1
  rcases m3 with ⟨_, rfl⟩ | ⟨_, on⟩
  · exact absurd (r.2.1 0 h0) (Nat.not_lt_zero _)
  · refine ⟨fun s hs t ht e => ⟨m1 s hs t ht e, ?_⟩, m2⟩
    exact ((r.1 s hs t ht).mp ((onto_mono on ⟨r.2.1, r.2.2⟩ fun s hs t ht e => ((r.1 s hs t ht).mp e).1).2 rfl s hs t ht e)).2
theorem Marks.go {rows : List (List Nat)} {fin : List Bool} {o : List Nat} {i : Nat} {mk mk' : Nat → Nat} {c c' : Nat} (h : Marks rows fin o i mk c) (cl : Closed rows o) (r : Ref rows o mk mk' c') (ne : c' ≠ c) : Marks rows fin o (i + 1) mk' c' := by
  obtain ⟨m1, m2, m3, m4⟩ := h
  have h0 : 0 ∈ o := List.mem_of_getElem? cl.2.2.1
  have hc : c ≤ c' := by
    rcases m3 with ⟨_, rfl⟩ | ⟨_, on⟩
    · exact Nat.zero_le _
    · exact (onto_mono on ⟨r.2.1, r.2.2⟩ fun s hs t ht e => ((r.1 s hs t ht).mp e).1).1
  refine ⟨fun s hs t ht e => m1 s hs t ht ((r.1 s hs t ht).mp e).1, fun R hR s hs t ht e => ?_, .inr ⟨Nat.succ_pos _, r.2.1, r.2.2⟩, by omega⟩
  obtain ⟨_, b2, b3⟩ := hR s t e
  exact (r.1 s hs t ht).mpr ⟨m2 R hR s hs t ht e, map_of_rel (R := R) b2 b3 fun x hx y hy q => m2 R hR x (cl.2.2.2 s hs x hx) y (cl.2.2.2 t ht y hy) q⟩
def sp_classes (K : PySem.W.Frag) : Sp := fun vs H Q _ => ∃ (a f b : Addr) (rows : List (List Nat)) (fin : List Bool) (o : List Nat), vs = [.ref a, .ref f, .ref b] ∧ RowsAt K H a rows ∧ RowsOk rows ∧ Gx.Sq K H f (fin.map V.bl) ∧ fin.length = rows.length ∧ SqL K H b (o.map fun n => V.int (n : Nat)) ∧ Closed rows o ∧
  ∀ H' m mk, Same H H' → Gx.DM H' m o.length o mk → Coarse rows fin o mk → Q (.ref m) H'
theorem G_classes (T : Txt K mg w) : FnOk P w K mg base CX0 2 T.f_classes T.fd_classes ["rows", "finals", "order"] (sp_classes K) := by
  have G_refined := G_refined (P := P) (w := w) (base := base) T
  refine T.F_classes.ok sc_classes (fun vs H Q E h => ?_) (fun cdv A outer s H vs Q E hr h => ?_)
  · obtain ⟨a, f, b, rows, fin, o, rfl, _⟩ := h
    rfl
  · obtain ⟨a, f, b, rows, fin, o, rfl, hR, ok, hF, hfl, hS, cl, q⟩ := h
    have hol := nodup_le o rows.length cl.1 cl.2.1
    have hn := ok.2.1
    refine ⟨_, ((pss_cons (Gx.ps_setDc (i := 3) (own := [("state", 4)]) (g := (gName 4)) (tt := tYes) rfl sc_classes.nd rfl rfl (Gx.sw_dict rfl rfl rfl (by decide +kernel)) (pi_list (pv 2)) (blkOk_by (N := ["rows", "finals", "order", "marks", "state", "many", "_", "step"]) (sc := defScope s_classes) (by decide +kernel)) (fun _ _ _ _ _ => (pg_name (i := 4) sc_classes.nd rfl (Or.inl rfl))) (fun _ _ _ _ _ => pts_nil) (fun _ _ _ _ _ => (pv 4)) (fun _ _ _ _ _ => (pe_callTy Gx.cr_int1 (by rfl) T.z_int bt_int (pa_cons (pe_ix (r := rIx K) ix_seq (pv 1) (pv 4) (fun _ _ => rfl)) pa_nil))))
  (pss_cons (ps_set (i := 5) sc_classes.nd rfl (Or.inl rfl) pe_int)
  (pss_cons (ps_for PassesOwn.never rfl (pi_range1 rfl T.z_range (pa_cons (pe_op op_add (pe_callB Gx.cr_lenQ (by rfl) T.z_len bt_len (pa_cons (pv 2) pa_nil)) pe_int) pa_nil)) (pg_name (i := 6) sc_classes.nd rfl (Or.inl rfl))
  (pss_cons (ps_set (i := 7) sc_classes.nd rfl (Or.inl rfl) (pe_call G_refined (hr.mono (by first | decide | omega)) (by rfl) T.g_refined T.F_refined.kp T.b_refined .nil pass0 (pa_cons (pv 0) (pa_cons (pv 2) (pa_cons (pv 3) pa_nil)))))
  (pss_cons (ps_if (pt_cmpR op_eq (pe_ix ix_tup (pv 7) pe_int (fun _ _ => rfl)) (pv 5) (nomark _))
  (pss_one (ps_ret (pv 3)))
  pss_nil)
  (pss_cons (ps_set (i := 3) sc_classes.nd rfl (Or.inl rfl) (pe_ix ix_tup (pv 7) pe_int (fun _ _ => rfl)))
  (pss_one (ps_set (i := 5) sc_classes.nd rfl (Or.inl rfl) (pe_ix ix_tup (pv 7) pe_int (fun _ _ => rfl))))))))
  (pss_one (ps_ret (pv 3))))))), ?_⟩
    rw [st_classes]
    try dsimp only [cxOf]
    walk_at "g"
    refine ⟨⟨_, hS⟩, fun D nD => Gx.dc_list (H0 := H) (xs := o.map fun n => V.int (n : Nat)) (fun i H1 => Same H H1 ∧ ∃ kvs : List (Key × V), H1 D = some (.dK kvs) ∧ kvs.length ≤ i ∧ ∀ s ∈ o.take i, valV kvs (.inl (s : Nat)) = some (.int ((if fin.getD s false then 1 else 0 : Nat) : Nat))) hS
      ⟨Gx.Same.put (Same.refl H) nD, [], upd_same, Nat.le_refl _, fun s hs => by simp at hs⟩ (fun i H1 _ z => z.1) ?_ ?_⟩
    · rintro i x H1 hi ⟨s1, kvs, e1, l1, v1⟩
      rw [List.getElem?_map] at hi
      cases hoi : o[i]? with
      | none => rw [hoi] at hi; cases hi
      | some s =>
        rw [hoi] at hi
        obtain rfl := Option.some.inj hi
        have hso := List.mem_of_getElem? hoi
        have hil := (List.getElem?_eq_some_iff.mp hoi).1
        have hsn := cl.2.1 s hso
        walk_at "g"
        refine ⟨rfl, ?_⟩
        walk_at "g"
        refine Gx.ixQ (hF.same s1) rfl (v := .bl (fin.getD s false)) (by rw [List.getElem?_map, List.getElem?_eq_getElem (by omega), List.getD_eq_getElem?_getD, List.getElem?_eq_getElem (by omega)]; rfl) ?_
        walk_at "g"
        have hlp := length_putK kvs (.inl (s : Nat)) (V.int (if fin.getD s false = true then 1 else 0))
        refine ⟨kvs, .inl (s : Nat), rfl, e1, by rw [sizeLine_eq]; omega, Gx.Same.put s1 nD, _, upd_same, by omega, fun x hx => ?_⟩
        rw [valV_put]
        by_cases e : x = s
        · subst e
          rw [if_pos rfl]
          cases fin.getD x false <;> rfl
        · rw [if_neg (by intro z; injection z with z; omega)]
          refine v1 x ?_
          rw [List.take_add_one, hoi, Option.toList_some] at hx
          rcases List.mem_append.mp hx with h | h
          · exact h
          · exact absurd (List.mem_singleton.mp h) e
    · rintro H1 ⟨s1, kvs, e1, l1, v1⟩
      rw [List.length_map] at l1 v1
      rw [List.take_length] at v1
      have hS1 := s1.seq hS
      walk_at "g"
      refine ⟨_, rfl, by omega, by omega, for_range (fun i σ H' => ∃ (m : Addr) (mk : Nat → Nat) (c : Nat) (y1 y2 : Option V), Same H H' ∧ Gx.DM H' m o.length o mk ∧ Marks rows fin o i mk c ∧ σ = [some (.ref a), some (.ref f), some (.ref b), some (.ref m), none, some (.int (c : Nat)), y1, y2])
        ⟨D, fun s => if fin.getD s false then 1 else 0, 0, none, none, s1, ⟨kvs, e1, l1, v1⟩, ⟨fun s hs t ht e => ?_, fun R hR s hs t ht e => ?_, .inl ⟨rfl, rfl⟩, Nat.le_refl _⟩, rfl⟩ ?_ ?_⟩
      · dsimp only at e
        generalize fin.getD s false = b1 at e ⊢
        generalize fin.getD t false = b2 at e ⊢
        cases b1 <;> cases b2 <;> first | rfl | (exact absurd e (by decide))
      · dsimp only
        rw [(hR s t e).1]
      · rintro i σ H2 hi ⟨m, mk, c, y1, y2, s2, dm, mks, rfl⟩
        walk_at "g"
        refine ⟨a, b, m, rows, o, mk, _, rfl, hR.same s2, ok, s2.seq hS, cl, dm, fun H3 u fi c' mk' s3 e3 dm3 ref => ?_⟩
        have ht3 := SqT.of (K := K) e3
        walk_at "g"
        refine Gx.iteD (fun h => ?_) (fun h => ?_)
        · walk_at "g"
          have hc : c' = c := by omega
          subst hc
          exact q H3 m mk (s2.trans s3) (dm.same s3) (mks.stop cl ref)
        · walk_at "g"
          exact ⟨fi, mk', c', _, _, s2.trans s3, dm3, mks.go cl ref (by omega), rfl⟩
      · rintro σ H2 ⟨m, mk, c, y1, y2, s2, dm, mks, rfl⟩
        exfalso
        obtain ⟨_, _, m3, m4⟩ := mks
        rcases m3 with ⟨h, _⟩ | ⟨_, on⟩
        · omega
        · have := onto_le on
          omega
end
end K15
namespace K15
open PySem PySem.Spec PyProof.Rows L2
local macro_rules | `(tactic| walk_at "con") => `(tactic| first | with_reducible refine Gx.conE K15.ks0 ?_ | with_reducible refine Gx.conE K15.ks1 ?_ | with_reducible refine Gx.conE K15.ks2 ?_ | with_reducible refine Gx.conE K15.ks3 ?_ | with_reducible refine Gx.conE K15.ks4 ?_ | with_reducible refine Gx.conE K15.ks5 ?_ | with_reducible refine Gx.conE K15.ks6 ?_ | with_reducible refine Gx.conE K15.ks7 ?_ | with_reducible refine Gx.conE K15.ks8 ?_ | with_reducible refine Gx.conE K15.ks9 ?_ | with_reducible refine Gx.conE K15.ks10 ?_ | with_reducible refine Gx.conE K15.ks11 ?_ | with_reducible refine Gx.conE K15.ks12 ?_ | with_reducible refine Gx.conE K15.ks13 ?_ | with_reducible refine Gx.conE K15.ks14 ?_ | with_reducible refine Gx.conE K15.ks15 ?_)
section
variable {P : Program} {w : World} {K : PySem.W.Frag} {mg : Str → Option Value} {base : Heap}
/-- t is picked if no state of its mark is -/
def pick1 (mk : Nat → Nat) (pk : List Nat) (t : Nat) : List Nat := if mk t ∈ pk.map mk then pk else pk ++ [t]
/-- the states picked, breadth-first, once the moves of the first at_ of them are gone through -/
inductive Bfs (rows : List (List Nat)) (mk : Nat → Nat) (s0 : Nat) : Nat → List Nat → Prop
  | start : Bfs rows mk s0 0 [s0]
  | step {at_ : Nat} {pk : List Nat} {s : Nat} : Bfs rows mk s0 at_ pk → pk[at_]? = some s → Bfs rows mk s0 (at_ + 1) ((rows.getD s []).foldl (pick1 mk) pk)
def newRow (mk : Nat → Nat) (pk : List Nat) (row : List Nat) : List Nat := row.map fun t => (pk.map mk).idxOf (mk t)
def rowD (row : List Nat) : PyData := .tuple (row.map fun n => PyData.int (n : Nat))
def rowsD (rows : List (List Nat)) : PyData := .tuple (rows.map rowD)
def finsD (fin : List Bool) : PyData := .tuple (fin.map PyData.bool)
/-- the least machine by these marks -/
def lRows (rows : List (List Nat)) (mk : Nat → Nat) (pk : List Nat) : List (List Nat) := pk.map fun s => newRow mk pk (rows.getD s [])
def lFins (fin : List Bool) (pk : List Nat) : List Bool := pk.map fun s => fin.getD s false
/-- the marks picked, numbered -/
def NmOk (mk : Nat → Nat) (pk : List Nat) (kn : List (Key × V)) : Prop := kn.length ≤ pk.length ∧ ∀ m : Nat, valV kn (.inl (m : Nat)) = if m ∈ pk.map mk then some (V.int ((pk.map mk).idxOf m : Nat)) else none
theorem NmOk.put {mk : Nat → Nat} {pk : List Nat} {kn : List (Key × V)} (h : NmOk mk pk kn) {t : Nat} (n : mk t ∉ pk.map mk) : NmOk mk (pk ++ [t]) (putK kn (.inl (mk t : Nat)) (.int (pk.length : Nat))) := by
  have hl := length_putK kn (.inl (mk t : Nat)) (V.int (pk.length : Nat))
  have h1 := h.1
  refine ⟨by rw [List.length_append, List.length_singleton]; omega, fun m => ?_⟩
  rw [valV_put, List.map_append, List.map_singleton]
  by_cases e : m = mk t
  · subst e
    rw [if_pos rfl, if_pos (by simp), List.idxOf_append, if_neg n]
    simp
  · rw [if_neg (by intro z; injection z with z; omega), h.2 m]
    by_cases q : m ∈ pk.map mk
    · rw [if_pos q, if_pos (List.mem_append_left _ q), List.idxOf_append, if_pos q]
    · rw [if_neg q, if_neg]
      intro z
      rcases List.mem_append.mp z with z | z
      · exact q z
      · exact e (List.mem_singleton.mp z)
theorem newRow_grow {mk : Nat → Nat} {pk z : List Nat} {row : List Nat} (h : ∀ t ∈ row, mk t ∈ pk.map mk) : newRow mk (pk ++ z) row = newRow mk pk row := by
  unfold newRow
  refine List.map_congr_left fun t ht => ?_
  rw [List.map_append, List.idxOf_append, if_pos (h t ht)]
theorem pick1_pre (mk : Nat → Nat) (pk : List Nat) (t : Nat) : ∃ z, pick1 mk pk t = pk ++ z := by
  unfold pick1
  split
  · exact ⟨[], (List.append_nil _).symm⟩
  · exact ⟨[t], rfl⟩
theorem pick1_mem (mk : Nat → Nat) (pk : List Nat) (t : Nat) : mk t ∈ (pick1 mk pk t).map mk := by
  unfold pick1
  split
  · assumption
  · simp
theorem noLs_rows : ∀ l : List (List Nat), Gx.noLs (l.map rowD) = true
  | [] => rfl
  | r :: l => by
    have hi : ∀ r : List Nat, Gx.noLs (r.map fun n => PyData.int (n : Nat)) = true := by
      intro r
      induction r with
      | nil => rfl
      | cons x r ih => rw [List.map_cons, Gx.noLs, ih]; rfl
    rw [List.map_cons, Gx.noLs, noLs_rows l, rowD, Gx.noL, hi r]
    rfl
theorem tups_upd {H : Hp} {p : Addr} {u v : HO} (h : H p = some u) (n1 : ∀ xs, u ≠ .tup xs) (n2 : ∀ o w, u ≠ .frz o w) : Gx.Tups K H (upd H p v) := fun a us q => by
  rcases q with (q | ⟨o, q⟩) | q
  · exact .inl (.inl (by rw [upd_ne (ne_of q h (n1 _).symm)]; exact q))
  · exact .inl (.inr ⟨o, by rw [upd_ne (ne_of q h (n2 _ _).symm)]; exact q⟩)
  · exact .inr q
theorem nodup_of_map {f : Nat → Nat} : ∀ {l : List Nat}, (l.map f).Nodup → l.Nodup
  | [], _ => List.nodup_nil
  | x :: l, h => by
    rw [List.map_cons, List.nodup_cons] at h
    exact List.nodup_cons.mpr ⟨fun m => h.1 (List.mem_map_of_mem m), nodup_of_map h.2⟩
/-- what `least` goes by: closed states, the coarsest marks, the states picked -/
def LeastOf (rows : List (List Nat)) (fin : List Bool) (o : List Nat) (mk : Nat → Nat) (pk : List Nat) : Prop := Closed rows o ∧ Coarse rows fin o mk ∧ Bfs rows mk 0 pk.length pk ∧ (∀ s ∈ pk, s ∈ o) ∧ (pk.map mk).Nodup
def sp_least (K : PySem.W.Frag) : Sp := fun vs H Q _ => ∃ (a f : Addr) (rows : List (List Nat)) (fin : List Bool), vs = [.ref a, .ref f] ∧ RowsAt K H a rows ∧ RowsOk rows ∧ Gx.Sq K H f (fin.map V.bl) ∧ fin.length = rows.length ∧
  ∀ H' u x y o mk pk, Same H H' → H' u = some (.tup [x, y]) → LeastOf rows fin o mk pk → Dp K H' x (rowsD (lRows rows mk pk)) → Dp K H' y (finsD (lFins fin pk)) → Q (.ref u) H'
theorem G_least (T : Txt K mg w) : FnOk P w K mg base CX0 3 T.f_least T.fd_least ["rows", "finals"] (sp_least K) := by
  have G_reached := G_reached (P := P) (w := w) (base := base) T
  have G_classes := G_classes (P := P) (w := w) (base := base) T
  refine T.F_least.ok sc_least (fun vs H Q E h => ?_) (fun cdv A outer s H vs Q E hr h => ?_)
  · obtain ⟨a, f, rows, fin, rfl, _⟩ := h
    rfl
  · obtain ⟨a, f, rows, fin, rfl, hR, ok, hF, hfl, q⟩ := h
    have hn := ok.2.1
    refine ⟨_, ((pss_cons (ps_set (i := 2) sc_least.nd rfl (Or.inl rfl) (pe_call G_classes (hr.mono (by first | decide | omega)) (by rfl) T.g_classes T.F_classes.kp T.b_classes .nil pass0 (pa_cons (pv 0) (pa_cons (pv 1) (pa_cons (pe_call G_reached (hr.mono (by first | decide | omega)) (by rfl) T.g_reached T.F_reached.kp T.b_reached .nil pass0 (pa_cons (pv 0) pa_nil)) pa_nil)))))
  (pss_cons (ps_set (i := 3) sc_least.nd rfl (Or.inl rfl) (pe_disp (pps_cons (pe_dget (Gx.hu1 hr.units) (pv 2) pe_int (fun _ _ => rfl)) pe_int pps_nil) rfl rfl (by decide) (by decide)))
  (pss_cons (ps_set (i := 4) sc_least.nd rfl (Or.inl rfl) (pe_lst (pa_cons pe_int pa_nil)))
  (pss_cons (ps_set (i := 5) sc_least.nd rfl (Or.inl rfl) (pe_lst pa_nil))
  (pss_cons (ps_set (i := 6) sc_least.nd rfl (Or.inl rfl) pe_int)
  (pss_cons (ps_while PassesOwn.never (pt_cmpR op_lt (pv 6) (pe_callB Gx.cr_lenQ (by rfl) T.z_len bt_len (pa_cons (pv 4) pa_nil)) (nomark _))
  (pss_cons (ps_set (i := 7) sc_least.nd rfl (Or.inl rfl) (pe_lst pa_nil))
  (pss_cons (ps_for PassesOwn.never rfl (Gx.pi_seq (pe_ix ix_seq (pv 0) (pe_ix ix_list (pv 4) (pv 6) (fun _ _ => rfl)) (fun _ _ => rfl))) (pg_name (i := 8) sc_least.nd rfl (Or.inl rfl))
  (pss_cons (ps_set (i := 9) sc_least.nd rfl (Or.inl rfl) (pe_dget (Gx.hu1 hr.units) (pv 2) (pv 8) (fun _ _ => rfl)))
  (C8.pss_cut (ps_if (pt_cmp (pc_dnotin (Gx.hu1 hr.units) (pv 9) (pv 3)))
  (pss_cons (ps_dput (Gx.hu1 hr.units) (pv 3) (pv 9) (pe_callB Gx.cr_lenQ (by rfl) T.z_len bt_len (pa_cons (pv 4) pa_nil)) rfl)
  (pss_one (ps_expr (pe_bm PySem.F.plainAttrs_list PySem.F.slot_list_append PySem.F.type_list_append mt_append (pv 4) (pa_cons (pv 8) pa_nil)))))
  pss_nil)
  (pss_one (ps_expr (pe_bm PySem.F.plainAttrs_list PySem.F.slot_list_append PySem.F.type_list_append mt_append (pv 7) (pa_cons (pe_dget (Gx.hu1 hr.units) (pv 3) (pv 9) (fun _ _ => rfl)) pa_nil)))))))
  (pss_cons (ps_expr (pe_bm PySem.F.plainAttrs_list PySem.F.slot_list_append PySem.F.type_list_append mt_append (pv 5) (pa_cons (pe_callTy Gx.cr_tupL (by rfl) T.z_tuple bt_tuple (pa_cons (pv 7) pa_nil)) pa_nil)))
  (pss_one (ps_aug (i := 6) sc_least.nd rfl (Or.inl rfl) pe_int ip_add))))))
  (pss_one (ps_ret (pe_tup (pa_cons (pe_callTy Gx.cr_tupL (by rfl) T.z_tuple bt_tuple (pa_cons (pv 5) pa_nil)) (pa_cons (pe_callTy Gx.cr_tupL (by rfl) T.z_tuple bt_tuple (pa_cons (pe_lc (own := [("state", 10)]) (g := (gName 10)) (tt := tYes) (by rfl) sc_least.nd (pi_list (pv 4)) (blkOk_by (N := ["rows", "finals", "marks", "names", "picked", "least_rows", "at", "row", "target", "mark", "state"]) (sc := defScope s_least) (by decide +kernel)) (fun _ _ _ _ _ => (pg_name (i := 10) sc_least.nd rfl (Or.inl rfl))) (fun _ _ _ _ _ => pts_nil) (fun _ _ _ _ _ => (pe_callTy Gx.cr_bool1 (by rfl) T.z_bool bt_bool (pa_cons (pe_ix (r := rIx K) ix_seq (pv 1) (pv 10) (fun _ _ => rfl)) pa_nil)))) pa_nil)) pa_nil)))))))))))), ?_⟩
    rw [st_least]
    try dsimp only [cxOf]
    walk_at "g"
    refine ⟨a, rows, rfl, hR, ok, fun H1 p o s1 e1 cl => ?_⟩
    walk_at "g"
    refine ⟨a, f, p, rows, fin, o, rfl, hR.same s1, ok, hF.same s1, hfl, SqL.of e1, cl, fun H2 m mk s2 dm co => ?_⟩
    have h0 : 0 ∈ o := List.mem_of_getElem? cl.2.2.1
    have s02 := s1.trans s2
    walk_at "g"
    intro d nd
    have E3 := Gx.ext1 (o := .dK []) nd
    walk_at "g"
    refine ⟨_, _, rfl, DM.get (dm.same E3.same) h0, ?_⟩
    walk_at "g"
    refine ⟨upd_same, [(.inl (mk 0 : Nat), .int 0)], rfl, by show 1 ≤ 15; omega, ?_⟩
    have nd0 : H d = none := s02.free nd
    have s3 : Same H2 (upd (upd H2 d (.dK [])) d (.dK (mergeK [] [(.inl (mk 0 : Nat), .int 0)]))) := Gx.Same.put E3.same nd
    have d3 : (upd (upd H2 d (.dK [])) d (.dK (mergeK [] [(.inl (mk 0 : Nat), .int 0)]))) d = some (.dK [(.inl (mk 0 : Nat), .int 0)]) := upd_same
    generalize upd (upd H2 d (.dK [])) d (.dK (mergeK [] [(.inl (mk 0 : Nat), .int 0)])) = H3 at s3 d3 ⊢
    clear E3
    walk_at "g"
    refine Gx.newL (by show 1 ≤ 16777216; decide) fun pp H4 E4 => ?_
    walk_at "g"
    refine Gx.newL (by show 0 ≤ 16777216; decide) fun lr H5 E5 => ?_
    walk_at "g"
    have npp : H2 pp = none := s3.free E4.fresh
    have nlr : H2 lr = none := s3.free (E4.same.free E5.fresh)
    refine Gx.wh (W := fun m' σ H' => ∃ (at_ : Nat) (pk : List Nat) (vs : List V) (kn : List (Key × V)) (y7 y8 y9 : Option V), Same H2 H' ∧ H' d = some (.dK kn) ∧ NmOk mk pk kn ∧ H' pp = some (.lst (pk.map fun n => V.int (n : Nat))) ∧ H' lr = some (.lst vs) ∧
        DpAll K H' vs (((pk.take at_).map fun s => newRow mk pk (rows.getD s [])).map rowD) ∧ Bfs rows mk 0 at_ pk ∧ (∀ s ∈ pk, s ∈ o) ∧ (pk.map mk).Nodup ∧ (∀ s ∈ pk.take at_, ∀ t ∈ rows.getD s [], mk t ∈ pk.map mk) ∧ at_ ≤ pk.length ∧ m' = rows.length - at_ ∧
        σ = [some (.ref a), some (.ref f), some (.ref m), some (.ref d), some (.ref pp), some (.ref lr), some (.int (at_ : Nat)), y7, y8, y9, none])
      (m0 := rows.length) ⟨0, [0], [], _, none, none, none, (s3.trans E4.same).trans E5.same, E5.same _ _ (E4.same _ _ d3), ⟨Nat.le_refl _, fun k => ?_⟩, E5.same _ _ E4.at_, E5.at_, .nil, .start, (fun s hs => by cases List.mem_singleton.mp hs; exact h0), by simp, (fun s hs => by simp at hs), Nat.zero_le _, rfl, rfl⟩ ?_
    · rw [List.map_singleton]
      by_cases e : k = mk 0
      · subst e
        rw [valV_pos rfl, if_pos (List.mem_singleton.mpr rfl)]
        simp
      · rw [valV_neg (by intro z; injection z with z; omega), if_neg (fun z => e (List.mem_singleton.mp z))]
        rfl
    · rintro m' σ H6 ⟨at_, pk, vs, kn, y7, y8, y9, s6, d6, nm, p6, l6, v6, bfs, sub, nd6, tk, hat, rfl, rfl⟩
      have hS6 := SqL.of (K := K) p6
      have hpl : pk.length ≤ rows.length := by
        have := nodup_sub pk o (nodup_of_map nd6) sub
        have := nodup_le o rows.length cl.1 cl.2.1
        omega
      walk_at "g"
      refine Gx.iteD (fun c => ⟨_, fun σ' H' z => z, ?_⟩) (fun c => ?_)
      · have c' : at_ < pk.length := by omega
        obtain ⟨s, hs⟩ : ∃ s, pk[at_]? = some s := ⟨_, List.getElem?_eq_getElem c'⟩
        have hso := sub s (List.mem_of_getElem? hs)
        have hsn := cl.2.1 s hso
        obtain ⟨row, hrw⟩ : ∃ row, rows[s]? = some row := ⟨_, List.getElem?_eq_getElem hsn⟩
        have hgd : rows.getD s [] = row := by rw [List.getD_eq_getElem?_getD, hrw]; rfl
        have hto : ∀ t ∈ row, t ∈ o := fun t ht => cl.2.2.2 s hso t (by rw [hgd]; exact ht)
        obtain ⟨hrl, hrt⟩ := ok.2.2 row (List.mem_of_getElem? hrw)
        obtain ⟨us, hq, hl, hrow⟩ := id hR
        have s06 := s02.trans s6
        obtain ⟨r, hr1, hr2⟩ := hrow s row hrw
        walk_at "g"
        refine Gx.newL (by show 0 ≤ 16777216; decide) fun ro H7 E7 => ?_
        have nro : H2 ro = none := s6.free E7.fresh
        walk_at "g"
        refine Gx.ixL (SqL.of (E7.same _ _ p6)) (Gx.atI_of (k := at_) rfl (v := .int (s : Nat)) (by rw [List.getElem?_map, hs]; rfl)) ?_
        walk_at "g"
        refine Gx.ixQ (hq.same (s06.trans E7.same)) rfl hr1 ?_
        walk_at "g"
        refine Gx.for_sq (H0 := H) (fun i σ H' => ∃ (pk' z : List Nat) (kn' : List (Key × V)) (y8 y9 : Option V), pk' = pk ++ z ∧ Same H2 H' ∧ H' d = some (.dK kn') ∧ NmOk mk pk' kn' ∧ H' pp = some (.lst (pk'.map fun n => V.int (n : Nat))) ∧ H' lr = some (.lst vs) ∧
            DpAll K H' vs (((pk.take at_).map fun s => newRow mk pk (rows.getD s [])).map rowD) ∧ pk' = (row.take i).foldl (pick1 mk) pk ∧ (∀ s ∈ pk', s ∈ o) ∧ (pk'.map mk).Nodup ∧ (∀ t ∈ row.take i, mk t ∈ pk'.map mk) ∧
            H' ro = some (.lst ((row.take i).map fun t => V.int ((pk'.map mk).idxOf (mk t) : Nat))) ∧
            σ = [some (.ref a), some (.ref f), some (.ref m), some (.ref d), some (.ref pp), some (.ref lr), some (.int (at_ : Nat)), some (.ref ro), y8, y9, none])
          hr2 ⟨pk, [], kn, y8, y9, (List.append_nil _).symm, s6.trans E7.same, E7.same _ _ d6, nm, E7.same _ _ p6, E7.same _ _ l6, Gx.dpAll_same E7.same _ _ v6, rfl, sub, nd6, (fun t ht => by simp at ht), E7.at_, rfl⟩ (fun i σ H' _ ⟨_, _, _, _, _, _, e, _⟩ => s02.trans e) ?_ ?_
        · rintro i x σ H8 hi ⟨pk', z, kn', y8, y9, epk, s8, d8, nm8, p8, l8, v8, fo, sub8, nd8, tk8, r8, rfl⟩
          rw [List.getElem?_map] at hi
          cases hti : row[i]? with
          | none => rw [hti] at hi; cases hi
          | some t =>
            rw [hti] at hi
            obtain rfl := Option.some.inj hi
            have hot := hto t (List.mem_of_getElem? hti)
            walk_at "g"
            refine ⟨_, _, rfl, DM.get (dm.same s8) hot, ?_⟩
            walk_at "g"
            have hpl8 : pk'.length ≤ rows.length := by
              have := nodup_sub pk' o (nodup_of_map nd8) sub8
              have := nodup_le o rows.length cl.1 cl.2.1
              omega
            have npl : pp ≠ lr := ne_of_none E4.at_ E5.fresh
            have npr : pp ≠ ro := ne_of_none p6 E7.fresh
            have nlo : lr ≠ ro := ne_of_none l6 E7.fresh
            refine ⟨fun σ H' => ∃ (z' : List Nat) (kn'' : List (Key × V)), pick1 mk pk' t = pk ++ z' ∧ Same H2 H' ∧ H' d = some (.dK kn'') ∧ NmOk mk (pick1 mk pk' t) kn'' ∧ H' pp = some (.lst ((pick1 mk pk' t).map fun n => V.int (n : Nat))) ∧ H' lr = some (.lst vs) ∧
                DpAll K H' vs (((pk.take at_).map fun s => newRow mk pk (rows.getD s [])).map rowD) ∧ (∀ s ∈ pick1 mk pk' t, s ∈ o) ∧ ((pick1 mk pk' t).map mk).Nodup ∧
                H' ro = some (.lst ((row.take i).map fun t => V.int ((pk'.map mk).idxOf (mk t) : Nat))) ∧
                σ = [some (.ref a), some (.ref f), some (.ref m), some (.ref d), some (.ref pp), some (.ref lr), some (.int (at_ : Nat)), some (.ref ro), some (.int (t : Nat)), some (.int (mk t : Nat)), none], ?_, ?_⟩
            · walk_at "g"
              refine ⟨_, _, rfl, DGet.k (k := .inl (mk t : Nat)) d8, _, rfl, ?_⟩
              rw [nm8.2 (mk t)]
              by_cases hin : mk t ∈ pk'.map mk
              · rw [if_pos hin, if_neg (by rw [Option.isSome_some]; decide)]
                have e1 : pick1 mk pk' t = pk' := if_pos hin
                rw [e1]
                walk_at "g"
                exact ⟨z, kn', epk, s8, d8, nm8, p8, l8, v8, sub8, nd8, r8, rfl⟩
              · rw [if_neg hin, if_pos (show (!Option.isSome (none : Option V)) = true from rfl)]
                have e1 : pick1 mk pk' t = pk' ++ [t] := if_neg hin
                rw [e1]
                walk_at "g"
                refine Gx.lenL (SqL.of p8) ?_
                rw [List.length_map]
                walk_at "g"
                refine ⟨_, _, rfl, DPut.k (k := .inl (mk t : Nat)) d8 (by have := nm8.1; rw [sizeLine_eq]; omega), ?_⟩
                have hne : ∀ {x : Addr} {xs : List V}, H8 x = some (.lst xs) → x ≠ d := fun {x xs} e => ne_of e d8 (by intro z; cases z)
                have p9 : (upd H8 d (.dK (putK kn' (.inl (mk t : Nat)) (.int (pk'.length : Nat))))) pp = some (.lst (pk'.map fun n => V.int (n : Nat))) := by rw [upd_ne (hne p8)]; exact p8
                have l9 : (upd H8 d (.dK (putK kn' (.inl (mk t : Nat)) (.int (pk'.length : Nat))))) lr = some (.lst vs) := by rw [upd_ne (hne l8)]; exact l8
                have r9 : (upd H8 d (.dK (putK kn' (.inl (mk t : Nat)) (.int (pk'.length : Nat))))) ro = some (.lst ((row.take i).map fun t => V.int ((pk'.map mk).idxOf (mk t) : Nat))) := by rw [upd_ne (hne r8)]; exact r8
                have d9 : (upd H8 d (.dK (putK kn' (.inl (mk t : Nat)) (.int (pk'.length : Nat))))) d = some (.dK (putK kn' (.inl (mk t : Nat)) (.int (pk'.length : Nat)))) := upd_same
                have s9 : Same H2 (upd H8 d (.dK (putK kn' (.inl (mk t : Nat)) (.int (pk'.length : Nat))))) := Gx.Same.put s8 nd
                have v9 := Gx.dpAll_tups (tups_upd (K := K) (v := .dK (putK kn' (.inl (mk t : Nat)) (.int (pk'.length : Nat)))) d8 (fun _ z => by cases z) (fun _ _ z => by cases z)) _ _ (noLs_rows _) v8
                generalize upd H8 d (.dK (putK kn' (.inl (mk t : Nat)) (.int (pk'.length : Nat)))) = H9 at p9 l9 r9 d9 s9 v9 ⊢
                walk_at "g"
                refine Gx.app p9 (by rw [List.length_map, sizeLine_eq]; omega) ?_
                walk_at "g"
                refine ⟨z ++ [t], _, by rw [epk, List.append_assoc], Gx.Same.put s9 npp, by rw [upd_ne (ne_of d9 p9 (by intro z; cases z))]; exact d9, nm8.put hin, by rw [upd_same, List.map_append]; rfl, by rw [upd_ne npl.symm]; exact l9,
                  Gx.dpAll_tups (tups_upd (K := K) p9 (fun _ z => by cases z) (fun _ _ z => by cases z)) _ _ (noLs_rows _) v9, fun s hs => ?_, ?_, by rw [upd_ne npr.symm]; exact r9, rfl⟩
                · rcases List.mem_append.mp hs with h | h
                  · exact sub8 s h
                  · cases List.mem_singleton.mp h
                    exact hot
                · rw [List.map_append, List.map_singleton]
                  exact nodup_snoc nd8 hin
            · rintro σ H9 ⟨z', kn'', epk', s9, d9, nm9, p9, l9, v9, sub9, nd9, r9, rfl⟩
              have hit := pick1_mem mk pk' t
              have hg := DGet.k (k := .inl (mk t : Nat)) d9
              rw [nm9.2 (mk t), if_pos hit] at hg
              walk_at "g"
              refine ⟨_, _, rfl, hg, ?_⟩
              walk_at "g"
              refine Gx.app r9 (by rw [List.length_map, List.length_take, sizeLine_eq]; omega) ?_
              walk_at "g"
              have htk : ∀ x ∈ row.take (i + 1), x ∈ row.take i ∨ x = t := fun x hx => by
                rw [List.take_add_one, hti, Option.toList_some] at hx
                rcases List.mem_append.mp hx with h | h
                · exact .inl h
                · exact .inr (List.mem_singleton.mp h)
              obtain ⟨w9, ew⟩ := pick1_pre mk pk' t
              have hgr : ∀ x, mk x ∈ pk'.map mk → mk x ∈ (pick1 mk pk' t).map mk ∧ ((pick1 mk pk' t).map mk).idxOf (mk x) = (pk'.map mk).idxOf (mk x) := fun x hx => by
                rw [ew, List.map_append]
                exact ⟨List.mem_append_left _ hx, by rw [List.idxOf_append, if_pos hx]⟩
              refine ⟨pick1 mk pk' t, z', kn'', _, _, epk', Gx.Same.put s9 nro, by rw [upd_ne (ne_of d9 r9 (by intro z; cases z))]; exact d9, nm9, by rw [upd_ne npr]; exact p9, by rw [upd_ne nlo]; exact l9,
                Gx.dpAll_tups (tups_upd (K := K) r9 (fun _ z => by cases z) (fun _ _ z => by cases z)) _ _ (noLs_rows _) v9, ?_, sub9, nd9, fun x hx => ?_, ?_, rfl⟩
              · rw [List.take_add_one, hti, Option.toList_some, List.foldl_append, ← fo]
                rfl
              · rcases htk x hx with h | rfl
                · exact (hgr x (tk8 x h)).1
                · exact hit
              · rw [upd_same, List.take_add_one, hti, Option.toList_some, List.map_append]
                congr 3
                refine List.map_congr_left fun x hx => ?_
                rw [(hgr x (tk8 x hx)).2]
        · rintro σ H8 ⟨pk', z, kn', y8, y9, epk, s8, d8, nm8, p8, l8, v8, fo, sub8, nd8, tk8, r8, rfl⟩
          rw [List.length_map, List.take_length] at fo tk8 r8
          have npl : pp ≠ lr := ne_of_none E4.at_ E5.fresh
          walk_at "g"
          refine Gx.tupL (SqL.of r8) fun c0 nc => ?_
          have E9 := Gx.ext1 (o := .tup (row.map fun t => V.int ((pk'.map mk).idxOf (mk t) : Nat))) nc
          generalize upd H8 c0 (.tup (row.map fun t => V.int ((pk'.map mk).idxOf (mk t) : Nat))) = H9 at E9 ⊢
          walk_at "g"
          have hvl := Gx.dpAll_len v8
          rw [List.length_map, List.length_map, List.length_take] at hvl
          refine Gx.app (E9.same _ _ l8) (by rw [sizeLine_eq]; omega) ?_
          walk_at "g"
          have dc : Dp K H9 (.ref c0) (rowD (newRow mk pk' row)) := by
            refine .tup (SqT.of E9.at_) ?_
            have := Gx.dpAll_ints (K := K) (H := H9) (row.map fun t => (((pk'.map mk).idxOf (mk t) : Nat) : Int))
            rw [List.map_map, List.map_map] at this
            rw [newRow, List.map_map]
            exact this
          have hrowN : ∀ r : List Nat, Gx.noL (rowD r) = true := fun r => by
            have := noLs_rows [r]
            rw [List.map_singleton, Gx.noLs, Gx.noLs, Bool.and_true] at this
            exact this
          have v10 := Gx.dpAll_snoc (E9.same _ _ l8) (Gx.dpAll_same E9.same _ _ v8) (noLs_rows _) dc (hrowN _)
          have ed : ((pk'.take (at_ + 1)).map fun s => newRow mk pk' (rows.getD s [])).map rowD = ((pk.take at_).map fun s => newRow mk pk (rows.getD s [])).map rowD ++ [rowD (newRow mk pk' row)] := by
            rw [epk, List.take_append_of_le_length (by omega), List.take_add_one, hs, Option.toList_some, List.map_append, List.map_append, List.map_singleton, List.map_singleton, hgd]
            congr 2
            exact List.map_congr_left fun x hx => newRow_grow (tk x hx)
          refine ⟨rows.length - (at_ + 1), by omega, at_ + 1, pk', _, kn', _, _, _, Gx.Same.put (s8.trans E9.same) nlr, by rw [upd_ne (ne_of (E9.same _ _ d8) (E9.same _ _ l8) (by intro z; cases z))]; exact E9.same _ _ d8, nm8, by rw [upd_ne npl]; exact E9.same _ _ p8, upd_same,
            by rw [ed]; exact v10, ?_, sub8, nd8, fun x hx t ht => ?_, by rw [epk, List.length_append]; omega, rfl, rfl⟩
          · rw [fo, ← hgd]
            exact .step bfs hs
          · rw [epk, List.take_append_of_le_length (by omega), List.take_add_one, hs, Option.toList_some] at hx
            rcases List.mem_append.mp hx with h | h
            · rw [epk, List.map_append]
              exact List.mem_append_left _ (tk x h t ht)
            · cases List.mem_singleton.mp h
              rw [hgd] at ht
              exact tk8 t ht
      · have e : at_ = pk.length := by omega
        subst e
        rw [List.take_length] at v6 tk
        walk_at "g"
        refine Gx.tupL (SqL.of l6) fun u1 nu1 => ?_
        have E7 := Gx.ext1 (o := .tup vs) nu1
        generalize upd H6 u1 (.tup vs) = H7 at E7 ⊢
        have hS7 := E7.same.seq hS6
        walk_at "g"
        refine ⟨⟨_, hS7⟩, fun D nD => lc_list (K := K) (a := pp) (xs := pk.map fun n => V.int (n : Nat)) (fun i H' => Same H7 H' ∧ H' D = some (.lst ((pk.take i).map fun s => V.bl (fin.getD s false))))
          ⟨Gx.Same.put (Same.refl H7) nD, upd_same⟩ (fun i H' _ z => z.1.seq hS7) ?_ ?_⟩
        · rintro i x H8 hi ⟨s8, e8⟩
          rw [List.getElem?_map] at hi
          cases hti : pk[i]? with
          | none => rw [hti] at hi; cases hi
          | some s =>
            rw [hti] at hi
            obtain rfl := Option.some.inj hi
            have hsn := cl.2.1 s (sub s (List.mem_of_getElem? hti))
            walk_at "g"
            refine ⟨rfl, ?_⟩
            walk_at "g"
            refine Gx.ixQ (hF.same (((s02.trans s6).trans E7.same).trans s8)) rfl (v := .bl (fin.getD s false)) (by rw [List.getElem?_map, List.getElem?_eq_getElem (by omega), List.getD_eq_getElem?_getD, List.getElem?_eq_getElem (by omega)]; rfl) ?_
            walk_at "g"
            refine ⟨_, e8, by rw [List.length_map, List.length_take, sizeLine_eq]; omega, Gx.Same.put s8 nD, ?_⟩
            rw [upd_same, List.take_add_one, hti, Option.toList_some, List.map_append]
            rfl
        · rintro H8 ⟨s8, e8⟩
          rw [List.length_map, List.take_length] at e8
          walk_at "g"
          refine Gx.tupL (SqL.of e8) fun u2 nu2 => ?_
          have E9 := Gx.ext1 (o := .tup (pk.map fun s => V.bl (fin.getD s false))) nu2
          generalize upd H8 u2 (.tup (pk.map fun s => V.bl (fin.getD s false))) = H9 at E9 ⊢
          walk_at "g"
          refine Gx.newT (by show 2 ≤ 16777216; decide) fun u3 H10 E10 => ?_
          have s710 := (s8.trans E9.same).trans E10.same
          refine q H10 u3 _ _ o mk pk (s02.trans (s6.trans (E7.same.trans s710))) E10.at_ ⟨cl, co, bfs, sub, nd6⟩ (.tup (SqT.of (s710 _ _ E7.at_)) (Gx.dpAll_same (E7.same.trans s710) _ _ v6)) (.tup (SqT.of (E10.same _ _ E9.at_)) ?_)
          unfold lFins
          have hb : ∀ l : List Nat, DpAll K H10 (l.map fun s => V.bl (fin.getD s false)) ((l.map fun s => fin.getD s false).map PyData.bool) := by
            intro l
            induction l with
            | nil => exact .nil
            | cons x l ih => exact .cons (.bl _) ih
          exact hb pk
/-! ### two least machines of automata that answer alike are the same, in plain Lean -/
inductive Rl (R : Nat → Nat → Prop) : List Nat → List Nat → Prop
  | nil : Rl R [] []
  | cons {x y : Nat} {l l' : List Nat} : R x y → Rl R l l' → Rl R (x :: l) (y :: l')
theorem Rl.len {R : Nat → Nat → Prop} : ∀ {l l' : List Nat}, Rl R l l' → l.length = l'.length
  | _, _, .nil => rfl
  | _, _, .cons _ t => by rw [List.length_cons, List.length_cons, t.len]
theorem Rl.get {R : Nat → Nat → Prop} : ∀ {l l' : List Nat}, Rl R l l' → ∀ k, k < l.length → R (l.getD k 0) (l'.getD k 0)
  | _, _, .nil, k, h => absurd h (Nat.not_lt_zero _)
  | _, _, .cons a _, 0, _ => a
  | _, _, .cons _ t, k + 1, h => t.get k (Nat.lt_of_succ_lt_succ h)
theorem Rl.of {R : Nat → Nat → Prop} : ∀ {l l' : List Nat}, l.length = l'.length → (∀ k, k < l.length → R (l.getD k 0) (l'.getD k 0)) → Rl R l l'
  | [], [], _, _ => .nil
  | [], _ :: _, h, _ => by cases h
  | _ :: _, [], h, _ => by cases h
  | x :: l, y :: l', h, g => .cons (g 0 (Nat.succ_pos _)) (Rl.of (Nat.succ.inj h) fun k hk => g (k + 1) (Nat.succ_lt_succ hk))
theorem Rl.app {R : Nat → Nat → Prop} : ∀ {l l' m m' : List Nat}, Rl R l l' → Rl R m m' → Rl R (l ++ m) (l' ++ m')
  | _, _, _, _, .nil, h => h
  | _, _, _, _, .cons a t, h => .cons a (t.app h)
theorem Rl.at_ {R : Nat → Nat → Prop} : ∀ {l l' : List Nat}, Rl R l l' → ∀ {k x y : Nat}, l[k]? = some x → l'[k]? = some y → R x y
  | _, _, .nil, k, x, y, h, _ => by cases h
  | _, _, .cons a _, 0, x, y, h, g => by cases h; cases g; exact a
  | _, _, .cons _ t, k + 1, x, y, h, g => t.at_ (k := k) (by simpa using h) (by simpa using g)
theorem Rl.flip {R : Nat → Nat → Prop} : ∀ {l l' : List Nat}, Rl R l l' → Rl (fun a b => R b a) l' l
  | _, _, .nil => .nil
  | _, _, .cons a t => .cons a t.flip
theorem Rl.imp {R S : Nat → Nat → Prop} : ∀ {l l' : List Nat}, Rl R l l' → (∀ a ∈ l, ∀ b ∈ l', R a b → S a b) → Rl S l l'
  | _, _, .nil, _ => .nil
  | _, _, .cons a t, h => .cons (h _ List.mem_cons_self _ List.mem_cons_self a) (t.imp fun x hx y hy => h x (List.mem_cons_of_mem _ hx) y (List.mem_cons_of_mem _ hy))
theorem Rl.maps {R : Nat → Nat → Prop} {f g : Nat → Nat} (h : ∀ x y, R x y → f x = g y) : ∀ {l l' : List Nat}, Rl R l l' → l.map f = l'.map g
  | _, _, .nil => rfl
  | _, _, .cons a t => by rw [List.map_cons, List.map_cons, h _ _ a, t.maps h]
/-- related states of two automata answer alike -/
def Sim (rows : List (List Nat)) (fin : List Bool) (rows' : List (List Nat)) (fin' : List Bool) (R : Nat → Nat → Prop) : Prop :=
  ∀ s t, R s t → fin.getD s false = fin'.getD t false ∧ Rl R (rows.getD s []) (rows'.getD t [])
theorem Sim.flip {rows rows' : List (List Nat)} {fin fin' : List Bool} {R : Nat → Nat → Prop} (h : Sim rows fin rows' fin' R) : Sim rows' fin' rows fin (fun a b => R b a) := fun s t r => ⟨(h t s r).1.symm, (h t s r).2.flip⟩
theorem Sim.within {rows rows' : List (List Nat)} {fin fin' : List Bool} {R : Nat → Nat → Prop} (h : Sim rows fin rows' fin' R) {o o' : List Nat} (c : Closed rows o) (c' : Closed rows' o') : Sim rows fin rows' fin' (fun a b => R a b ∧ a ∈ o ∧ b ∈ o') :=
  fun s t r => ⟨(h s t r.1).1, (h s t r.1).2.imp fun a ha b hb z => ⟨z, c.2.2.2 s r.2.1 a ha, c'.2.2.2 t r.2.2 b hb⟩⟩
theorem getD_map_lt {f : Nat → Nat} {l : List Nat} {k : Nat} (h : k < l.length) : (l.map f).getD k 0 = f (l.getD k 0) := by
  rw [List.getD_eq_getElem?_getD, List.getD_eq_getElem?_getD, List.getElem?_map, List.getElem?_eq_getElem h]
  rfl
theorem mem_getD {l : List Nat} {k : Nat} (h : k < l.length) : l.getD k 0 ∈ l := by
  rw [List.getD_eq_getElem?_getD, List.getElem?_eq_getElem h]
  exact List.getElem_mem h
theorem marks_imp {rows rows' : List (List Nat)} {fin fin' : List Bool} {R : Nat → Nat → Prop} {o o' : List Nat} {mk mk' : Nat → Nat} (h : Sim rows fin rows' fin' R) (hin : ∀ a b, R a b → a ∈ o ∧ b ∈ o') (k : Coarse rows fin o mk) (k' : Coarse rows' fin' o' mk')
    {a b a' b' : Nat} (r : R a b) (r' : R a' b') (e : mk a = mk a') : mk' b = mk' b' := by
  refine k'.2 (fun t t' => ∃ s s', mk s = mk s' ∧ R s t ∧ R s' t') ?_ b (hin _ _ r).2 b' (hin _ _ r').2 ⟨a, a', e, r, r'⟩
  rintro t t' ⟨s, s', es, q, q'⟩
  obtain ⟨f1, l1⟩ := h s t q
  obtain ⟨f2, l2⟩ := h s' t' q'
  obtain ⟨f3, m3⟩ := k.1 s (hin _ _ q).1 s' (hin _ _ q').1 es
  have ln : (rows.getD s []).length = (rows.getD s' []).length := by
    have := congrArg List.length m3
    simpa using this
  refine ⟨by rw [← f1, ← f2, f3], by rw [← l1.len, ← l2.len, ln], fun j hj => ?_⟩
  have hj1 : j < (rows.getD s []).length := by rw [l1.len]; exact hj
  have hj2 : j < (rows.getD s' []).length := by rw [← ln]; exact hj1
  refine ⟨(rows.getD s []).getD j 0, (rows.getD s' []).getD j 0, ?_, l1.get j hj1, l2.get j hj2⟩
  rw [← getD_map_lt (f := mk) hj1, m3, getD_map_lt hj2]
section
variable {R : Nat → Nat → Prop} {mk mk' : Nat → Nat}
theorem Rl.mem (hk : ∀ a b a' b', R a b → R a' b' → (mk a = mk a' ↔ mk' b = mk' b')) {x y : Nat} (r : R x y) : ∀ {l l' : List Nat}, Rl R l l' → (mk x ∈ l.map mk ↔ mk' y ∈ l'.map mk')
  | _, _, .nil => by simp
  | _, _, .cons a t => by rw [List.map_cons, List.map_cons, List.mem_cons, List.mem_cons, hk _ _ _ _ r a, t.mem hk r]
theorem Rl.idx (hk : ∀ a b a' b', R a b → R a' b' → (mk a = mk a' ↔ mk' b = mk' b')) {x y : Nat} (r : R x y) : ∀ {l l' : List Nat}, Rl R l l' → (l.map mk).idxOf (mk x) = (l'.map mk').idxOf (mk' y)
  | _, _, .nil => rfl
  | _, _, .cons (x := a) (y := b) q t => by
    rw [List.map_cons, List.map_cons, List.idxOf_cons, List.idxOf_cons, t.idx hk r]
    have := hk _ _ _ _ q r
    by_cases e : mk a = mk x
    · rw [beq_iff_eq.mpr e, beq_iff_eq.mpr (this.mp e)]
    · rw [beq_eq_false_iff_ne.mpr e, beq_eq_false_iff_ne.mpr (fun z => e (this.mpr z))]
theorem Rl.pick (hk : ∀ a b a' b', R a b → R a' b' → (mk a = mk a' ↔ mk' b = mk' b')) {x y : Nat} (r : R x y) {l l' : List Nat} (h : Rl R l l') : Rl R (pick1 mk l x) (pick1 mk' l' y) := by
  unfold pick1
  by_cases c : mk x ∈ l.map mk
  · rw [if_pos c, if_pos ((h.mem hk r).mp c)]
    exact h
  · rw [if_neg c, if_neg (fun z => c ((h.mem hk r).mpr z))]
    exact h.app (.cons r .nil)
theorem Rl.picks (hk : ∀ a b a' b', R a b → R a' b' → (mk a = mk a' ↔ mk' b = mk' b')) : ∀ {m m' : List Nat}, Rl R m m' → ∀ {l l' : List Nat}, Rl R l l' → Rl R (m.foldl (pick1 mk) l) (m'.foldl (pick1 mk') l')
  | _, _, .nil, _, _, h => h
  | _, _, .cons a t, _, _, h => t.picks hk (h.pick hk a)
theorem bfs_lock {rows rows' : List (List Nat)} {fin fin' : List Bool} {s0 t0 : Nat} (h : Sim rows fin rows' fin' R) (hk : ∀ a b a' b', R a b → R a' b' → (mk a = mk a' ↔ mk' b = mk' b')) (h0 : R s0 t0) {n : Nat} {pk : List Nat} (b : Bfs rows mk s0 n pk) :
    ∀ {pk' : List Nat}, Bfs rows' mk' t0 n pk' → Rl R pk pk' := by
  induction b with
  | start =>
    intro pk' b'
    cases b'
    exact .cons h0 .nil
  | step _ e ih =>
    intro pk' b'
    cases b' with
    | step b2 e2 => exact (h _ _ ((ih b2).at_ e e2)).2.picks hk (ih b2)
theorem bfs_down {rows : List (List Nat)} {s0 : Nat} {n : Nat} {pk : List Nat} (b : Bfs rows mk s0 n pk) : ∀ m, m ≤ n → ∃ q, Bfs rows mk s0 m q := by
  induction b with
  | start => intro m hm; obtain rfl : m = 0 := by omega
             exact ⟨_, .start⟩
  | step b e ih =>
    intro m hm
    rcases Nat.lt_or_eq_of_le hm with z | rfl
    · exact ih m (by omega)
    · exact ⟨_, .step b e⟩
theorem bfs_len {rows rows' : List (List Nat)} {fin fin' : List Bool} {s0 t0 : Nat} (h : Sim rows fin rows' fin' R) (hk : ∀ a b a' b', R a b → R a' b' → (mk a = mk a' ↔ mk' b = mk' b')) (h0 : R s0 t0) {pk pk' : List Nat} (b : Bfs rows mk s0 pk.length pk) (b' : Bfs rows' mk' t0 pk'.length pk') : pk'.length ≤ pk.length := by
  by_cases c : pk'.length ≤ pk.length
  · exact c
  · obtain ⟨q, hq⟩ := bfs_down b' (pk.length + 1) (by omega)
    cases hq with
    | step b2 e2 =>
      have := (bfs_lock h hk h0 b b2).len
      have := (List.getElem?_eq_some_iff.mp e2).1
      omega
end
/-- automata that answer alike have the same least machine -/
theorem least_unique {rows rows' : List (List Nat)} {fin fin' : List Bool} {R : Nat → Nat → Prop} {o o' : List Nat} {mk mk' : Nat → Nat} {pk pk' : List Nat} (h : Sim rows fin rows' fin' R) (h0 : R 0 0) (L : LeastOf rows fin o mk pk) (L' : LeastOf rows' fin' o' mk' pk') :
    lRows rows mk pk = lRows rows' mk' pk' ∧ lFins fin pk = lFins fin' pk' := by
  obtain ⟨cl, co, bf, sub, nd⟩ := L
  obtain ⟨cl', co', bf', sub', nd'⟩ := L'
  have hW := h.within cl cl'
  have hin : ∀ a b, (R a b ∧ a ∈ o ∧ b ∈ o') → a ∈ o ∧ b ∈ o' := fun a b z => z.2
  have hk : ∀ a b a' b', (R a b ∧ a ∈ o ∧ b ∈ o') → (R a' b' ∧ a' ∈ o ∧ b' ∈ o') → (mk a = mk a' ↔ mk' b = mk' b') := fun a b a' b' r r' =>
    ⟨marks_imp hW hin co co' r r', marks_imp hW.flip (fun a b z => ⟨z.2.2, z.2.1⟩) co' co r r'⟩
  have h00 : R 0 0 ∧ 0 ∈ o ∧ 0 ∈ o' := ⟨h0, List.mem_of_getElem? cl.2.2.1, List.mem_of_getElem? cl'.2.2.1⟩
  have le1 := bfs_len hW hk h00 bf bf'
  have le2 := bfs_len hW.flip (fun a b a' b' r r' => (hk b a b' a' r r').symm) h00 bf' bf
  have el : pk'.length = pk.length := by omega
  rw [el] at bf'
  have rl := bfs_lock hW hk h00 bf bf'
  constructor
  · unfold lRows
    have go : ∀ {l l' : List Nat}, Rl (fun a b => R a b ∧ a ∈ o ∧ b ∈ o') l l' → (l.map fun s => newRow mk pk (rows.getD s [])) = l'.map fun s => newRow mk' pk' (rows'.getD s []) := by
      intro l l' hl
      induction hl with
      | nil => rfl
      | cons a t ih =>
        rw [List.map_cons, List.map_cons, ih]
        congr 1
        exact Rl.maps (f := fun t => (pk.map mk).idxOf (mk t)) (g := fun t => (pk'.map mk').idxOf (mk' t)) (fun x y r => rl.idx hk r) (hW _ _ a).2
    exact go rl
  · unfold lFins
    have go : ∀ {l l' : List Nat}, Rl (fun a b => R a b ∧ a ∈ o ∧ b ∈ o') l l' → (l.map fun s => fin.getD s false) = l'.map fun s => fin'.getD s false := by
      intro l l' hl
      induction hl with
      | nil => rfl
      | cons a t ih => rw [List.map_cons, List.map_cons, ih, (hW _ _ a).1]
    exact go rl
/-- at most as many states as were there -/
theorem least_le {rows : List (List Nat)} {fin : List Bool} {o : List Nat} {mk : Nat → Nat} {pk : List Nat} (L : LeastOf rows fin o mk pk) : pk.length ≤ rows.length := by
  obtain ⟨cl, co, bf, sub, nd⟩ := L
  have nd' : pk.Nodup := by
    have : ∀ l : List Nat, (l.map mk).Nodup → l.Nodup := by
      intro l
      induction l with
      | nil => intro _; exact List.nodup_nil
      | cons x l ih =>
        intro h
        rw [List.map_cons, List.nodup_cons] at h
        rw [List.nodup_cons]
        exact ⟨fun z => h.1 (List.mem_map_of_mem z), ih h.2⟩
    exact this pk nd
  exact nodup_le pk rows.length nd' fun x hx => cl.2.1 x (sub x hx)
end
end K15
namespace K15
open PySem PySem.Spec PyProof.Rows L2
local macro_rules | `(tactic| walk_at "con") => `(tactic| first | with_reducible refine Gx.conE K15.ks0 ?_ | with_reducible refine Gx.conE K15.ks1 ?_ | with_reducible refine Gx.conE K15.ks2 ?_ | with_reducible refine Gx.conE K15.ks3 ?_ | with_reducible refine Gx.conE K15.ks4 ?_ | with_reducible refine Gx.conE K15.ks5 ?_ | with_reducible refine Gx.conE K15.ks6 ?_ | with_reducible refine Gx.conE K15.ks7 ?_ | with_reducible refine Gx.conE K15.ks8 ?_ | with_reducible refine Gx.conE K15.ks9 ?_ | with_reducible refine Gx.conE K15.ks10 ?_ | with_reducible refine Gx.conE K15.ks11 ?_ | with_reducible refine Gx.conE K15.ks12 ?_ | with_reducible refine Gx.conE K15.ks13 ?_ | with_reducible refine Gx.conE K15.ks14 ?_ | with_reducible refine Gx.conE K15.ks15 ?_)
section
variable {P : Program} {w : World} {K : PySem.W.Frag} {mg : Str → Option Value} {base : Heap}
/-! ### told apart, in plain Lean -/
/-- all states have five moves -/
def Five (rows : List (List Nat)) : Prop := 0 < rows.length ∧ ∀ s, s < rows.length → (rows.getD s []).length = 5 ∧ ∀ t ∈ rows.getD s [], t < rows.length
/-- the move k of s -/
def mv (rows : List (List Nat)) (s k : Nat) : Nat := (rows.getD s []).getD k 0
theorem Five.mv_lt {rows : List (List Nat)} (h : Five rows) {s k : Nat} (hs : s < rows.length) (hk : k < 5) : mv rows s k < rows.length := by
  obtain ⟨l, t⟩ := h.2 s hs
  exact t _ (mem_getD (by omega))
theorem Five.closed {rows : List (List Nat)} (h : Five rows) : Closed rows (List.range rows.length) :=
  ⟨List.nodup_range, fun s hs => List.mem_range.mp hs, by rw [List.getElem?_range h.1], fun s hs t ht => List.mem_range.mpr ((h.2 s (List.mem_range.mp hs)).2 t ht)⟩
theorem uniq : ∀ l : List (List Nat), ∃ ks : List (List Nat), ks.Nodup ∧ ∀ x, x ∈ ks ↔ x ∈ l
  | [] => ⟨[], List.nodup_nil, fun _ => Iff.rfl⟩
  | x :: l => by
    obtain ⟨ks, n, h⟩ := uniq l
    by_cases c : x ∈ l
    · refine ⟨ks, n, fun y => ?_⟩
      rw [h y, List.mem_cons]
      constructor
      · exact .inr
      · rintro (rfl | z)
        · exact c
        · exact z
    · exact ⟨x :: ks, List.nodup_cons.mpr ⟨fun z => c ((h x).mp z), n⟩, fun y => by rw [List.mem_cons, List.mem_cons, h y]⟩
theorem ref_exists (rows : List (List Nat)) (o : List Nat) (mk : Nat → Nat) : ∃ mk' c, Ref rows o mk mk' c := by
  obtain ⟨ks, nd, hm⟩ := uniq (o.map fun s => mk s :: (rows.getD s []).map mk)
  have hin : ∀ s ∈ o, (mk s :: (rows.getD s []).map mk) ∈ ks := fun s hs => (hm _).mpr (List.mem_map.mpr ⟨s, hs, rfl⟩)
  refine ⟨fun s => ks.idxOf (mk s :: (rows.getD s []).map mk), ks.length, fun s hs t ht => ?_, fun s hs => List.idxOf_lt_length_of_mem (hin s hs), fun j hj => ?_⟩
  · constructor
    · intro e
      have h1 := List.getElem_idxOf (List.idxOf_lt_length_of_mem (hin s hs))
      have h2 := List.getElem_idxOf (List.idxOf_lt_length_of_mem (hin t ht))
      have : (mk s :: (rows.getD s []).map mk) = (mk t :: (rows.getD t []).map mk) := by
        rw [← h1, ← h2]
        congr 1
      exact List.cons.inj this
    · rintro ⟨e1, e2⟩
      show ks.idxOf _ = ks.idxOf _
      rw [e1, e2]
  · obtain ⟨s, hs, e⟩ := List.mem_map.mp ((hm _).mp (List.getElem_mem hj))
    refine ⟨s, hs, ?_⟩
    show ks.idxOf _ = j
    rw [e]
    exact nd.idxOf_getElem j hj
section
variable {rows : List (List Nat)} {fin : List Bool}
/-- no pair that is told apart is in a bisimulation -/
def Fair (rows : List (List Nat)) (fin : List Bool) (A : Nat → Nat → Bool) : Prop := ∀ R, Bis rows fin R → ∀ p, p < rows.length → ∀ q, q < rows.length → R p q → A p q = false
/-- exactly the unlike states are told apart -/
def Told (rows : List (List Nat)) (fin : List Bool) (A : Nat → Nat → Bool) : Prop :=
  Fair rows fin A ∧ ∀ p, p < rows.length → ∀ q, q < rows.length → A p q = false → fin.getD p false = fin.getD q false ∧ ∀ k, k < 5 → A (mv rows p k) (mv rows q k) = false
def Round (rows : List (List Nat)) (fin : List Bool) (i : Nat) (A : Nat → Nat → Bool) : Prop :=
  Fair rows fin A ∧ (∀ p, p < rows.length → ∀ q, q < rows.length → A p q = false → fin.getD p false = fin.getD q false) ∧
  ((∃ mk, Coarse rows fin (List.range rows.length) mk ∧ ∀ p, p < rows.length → ∀ q, q < rows.length → mk p ≠ mk q → A p q = true) ∨ ∃ mk c, Marks rows fin (List.range rows.length) i mk c ∧ ∀ p, p < rows.length → ∀ q, q < rows.length → mk p ≠ mk q → A p q = true)
theorem bis_flip {R : Nat → Nat → Prop} (h : Bis rows fin R) : Bis rows fin (fun a b => R b a) := fun s t r => ⟨(h t s r).1.symm, (h t s r).2.1.symm, fun k hk => (h t s r).2.2 k (by rw [(h t s r).2.1]; exact hk)⟩
theorem Fair.put (five : Five rows) {A B : Nat → Nat → Bool} {p q k : Nat} (hp : p < rows.length) (hq : q < rows.length) (hk : k < 5) (h : Fair rows fin A) (e : A (mv rows p k) (mv rows q k) = true) (hB : ∀ x y, B x y = true → A x y = true ∨ (x = p ∧ y = q) ∨ (x = q ∧ y = p)) : Fair rows fin B := by
  have key : ∀ R, Bis rows fin R → ¬ R p q := fun R hR r => by
    obtain ⟨_, l, m⟩ := hR p q r
    have := h R hR _ (five.mv_lt hp hk) _ (five.mv_lt hq hk) (m k (by rw [(five.2 p hp).1]; exact hk))
    rw [e] at this
    cases this
  intro R hR x hx y hy r
  cases hb : B x y with
  | false => rfl
  | true =>
    rcases hB x y hb with z | ⟨rfl, rfl⟩ | ⟨rfl, rfl⟩
    · rw [h R hR x hx y hy r] at z
      cases z
    · exact absurd r (key R hR)
    · exact absurd r (key _ (bis_flip hR))
theorem Fair.init {A : Nat → Nat → Bool} (h : ∀ p, p < rows.length → ∀ q, q < rows.length → A p q = (fin.getD p false != fin.getD q false)) : Fair rows fin A := fun R hR p hp q hq r => by
  rw [h p hp q hq, (hR p q r).1]
  simp
theorem Round.init {A : Nat → Nat → Bool} (h : ∀ p, p < rows.length → ∀ q, q < rows.length → A p q = (fin.getD p false != fin.getD q false)) : Round rows fin 0 A := by
  have hm : ∀ p q, (if fin.getD p false then 1 else 0 : Nat) = (if fin.getD q false then 1 else 0) → fin.getD p false = fin.getD q false := fun p q e => by
    revert e
    cases fin.getD p false <;> cases fin.getD q false <;> simp
  refine ⟨Fair.init h, fun p hp q hq e => ?_, .inr ⟨fun s => if fin.getD s false then 1 else 0, 0, ⟨fun s _ t _ e => hm s t e, fun R hR s _ t _ r => ?_, .inl ⟨rfl, rfl⟩, Nat.le_refl _⟩, fun p hp q hq ne => ?_⟩⟩
  · rw [h p hp q hq] at e
    simpa using e
  · show (if fin.getD s false then 1 else 0 : Nat) = _
    rw [(hR s t r).1]
  · rw [h p hp q hq]
    cases hb : (fin.getD p false != fin.getD q false) with
    | true => rfl
    | false =>
      refine absurd ?_ ne
      have : fin.getD p false = fin.getD q false := by simpa using hb
      show (if fin.getD p false then 1 else 0 : Nat) = _
      rw [this]
theorem map_ne {l l' : List Nat} {mk : Nat → Nat} (e : l.length = l'.length) (h : ∀ k, k < l.length → mk (l.getD k 0) = mk (l'.getD k 0)) : l.map mk = l'.map mk := map_of_rel (R := fun a b => mk a = mk b) e h fun _ _ _ _ z => z
theorem Round.go (five : Five rows) {i : Nat} {A B : Nat → Nat → Bool} (h : Round rows fin i A) (fair : Fair rows fin B) (up : ∀ p, p < rows.length → ∀ q, q < rows.length → B p q = false → A p q = false)
    (hit : ∀ p, p < rows.length → ∀ q, q < rows.length → ∀ k, k < 5 → B p q = false → A (mv rows p k) (mv rows q k) = false) : Round rows fin (i + 1) B := by
  obtain ⟨fa, init, h⟩ := h
  have up' : ∀ p, p < rows.length → ∀ q, q < rows.length → A p q = true → B p q = true := fun p hp q hq e => by
    cases hb : B p q with
    | true => rfl
    | false => rw [up p hp q hq hb] at e; cases e
  refine ⟨fair, fun p hp q hq e => init p hp q hq (up p hp q hq e), ?_⟩
  rcases h with ⟨mk, c, m⟩ | ⟨mk, c, mm, m⟩
  · exact .inl ⟨mk, c, fun p hp q hq ne => up' p hp q hq (m p hp q hq ne)⟩
  · obtain ⟨mk', c', r⟩ := ref_exists rows (List.range rows.length) mk
    by_cases ec : c' = c
    · subst ec
      exact .inl ⟨mk, mm.stop five.closed r, fun p hp q hq ne => up' p hp q hq (m p hp q hq ne)⟩
    · refine .inr ⟨mk', c', mm.go five.closed r ec, fun p hp q hq ne => ?_⟩
      cases hb : B p q with
      | true => rfl
      | false =>
        refine absurd ((r.1 p (List.mem_range.mpr hp) q (List.mem_range.mpr hq)).mpr ⟨?_, ?_⟩) ne
        · by_cases e : mk p = mk q
          · exact e
          · have := m p hp q hq e
            rw [up p hp q hq hb] at this
            cases this
        · refine map_ne (by rw [(five.2 p hp).1, (five.2 q hq).1]) fun k hk => ?_
          rw [(five.2 p hp).1] at hk
          by_cases e : mk (mv rows p k) = mk (mv rows q k)
          · exact e
          · have := m _ (five.mv_lt hp hk) _ (five.mv_lt hq hk) e
            rw [hit p hp q hq k hk hb] at this
            cases this
theorem Round.stop {i : Nat} {A : Nat → Nat → Bool} (h : Round rows fin i A) (st : ∀ p, p < rows.length → ∀ q, q < rows.length → A p q = false → ∀ k, k < 5 → A (mv rows p k) (mv rows q k) = false) : Told rows fin A :=
  ⟨h.1, fun p hp q hq e => ⟨h.2.1 p hp q hq e, st p hp q hq e⟩⟩
theorem Round.full (five : Five rows) {A : Nat → Nat → Bool} (h : Round rows fin rows.length A) : Told rows fin A := by
  obtain ⟨fa, init, h⟩ := h
  have hc : ∃ mk, Coarse rows fin (List.range rows.length) mk ∧ ∀ p, p < rows.length → ∀ q, q < rows.length → mk p ≠ mk q → A p q = true := by
    rcases h with h | ⟨mk, c, mm, m⟩
    · exact h
    · refine ⟨mk, ?_, m⟩
      obtain ⟨m1, m2, m3, m4⟩ := mm
      rcases m3 with ⟨z, _⟩ | ⟨_, on⟩
      · exact absurd z (by have := five.1; omega)
      · have le := onto_le on
        rw [List.length_range] at le
        have inj : ∀ s ∈ List.range rows.length, ∀ t ∈ List.range rows.length, mk s = mk t → s = t := fun s hs t ht e =>
          (onto_mono (mk' := fun x => x) (c' := rows.length) on ⟨fun s hs => List.mem_range.mp hs, fun j hj => ⟨j, List.mem_range.mpr hj, rfl⟩⟩ fun s _ t _ e => by rw [show s = t from e]).2 (by omega) s hs t ht e
        exact ⟨fun s hs t ht e => by rw [inj s hs t ht e]; exact ⟨rfl, rfl⟩, m2⟩
  obtain ⟨mk, co, m⟩ := hc
  have hB : Bis rows fin (fun a b => a < rows.length ∧ b < rows.length ∧ mk a = mk b) := by
    rintro s t ⟨hs, ht, e⟩
    obtain ⟨c1, c2⟩ := co.1 s (List.mem_range.mpr hs) t (List.mem_range.mpr ht) e
    have l1 := (five.2 s hs).1
    have l2 := (five.2 t ht).1
    refine ⟨c1, by rw [l1, l2], fun k hk => ⟨five.mv_lt hs (by omega), five.mv_lt ht (by omega), ?_⟩⟩
    rw [← getD_map_lt (f := mk) hk, c2, getD_map_lt (by omega)]
  have hA : ∀ p, p < rows.length → ∀ q, q < rows.length → A p q = false → mk p = mk q := fun p hp q hq e => by
    by_cases z : mk p = mk q
    · exact z
    · have := m p hp q hq z
      rw [e] at this
      cases this
  refine ⟨fa, fun p hp q hq e => ⟨init p hp q hq e, fun k hk => ?_⟩⟩
  obtain ⟨_, l, mm⟩ := hB p q ⟨hp, hq, hA p hp q hq e⟩
  exact fa _ hB _ (five.mv_lt hp hk) _ (five.mv_lt hq hk) (mm k (by rw [(five.2 p hp).1]; exact hk))
/-! the relation not told apart -/
theorem Told.bis (five : Five rows) {A : Nat → Nat → Bool} (h : Told rows fin A) : Bis rows fin (fun a b => a < rows.length ∧ b < rows.length ∧ A a b = false) := by
  rintro s t ⟨hs, ht, e⟩
  obtain ⟨c1, c2⟩ := h.2 s hs t ht e
  have l1 := (five.2 s hs).1
  have l2 := (five.2 t ht).1
  exact ⟨c1, by rw [l1, l2], fun k hk => ⟨five.mv_lt hs (by omega), five.mv_lt ht (by omega), c2 k (by omega)⟩⟩
theorem Told.refl {A : Nat → Nat → Bool} (h : Told rows fin A) {p : Nat} (hp : p < rows.length) : A p p = false :=
  h.1 (fun a b => a = b) (fun s t e => by cases e; exact ⟨rfl, rfl, fun _ _ => rfl⟩) p hp p hp rfl
theorem Told.symm (five : Five rows) {A : Nat → Nat → Bool} (h : Told rows fin A) {p q : Nat} (hp : p < rows.length) (hq : q < rows.length) (e : A p q = false) : A q p = false := h.1 _ (bis_flip (h.bis five)) q hq p hp ⟨hp, hq, e⟩
theorem Told.trans (five : Five rows) {A : Nat → Nat → Bool} (h : Told rows fin A) {p q r : Nat} (hp : p < rows.length) (hq : q < rows.length) (hr : r < rows.length) (e : A p q = false) (f : A q r = false) : A p r = false := by
  refine h.1 (fun a c => ∃ b, (a < rows.length ∧ b < rows.length ∧ A a b = false) ∧ (b < rows.length ∧ c < rows.length ∧ A b c = false)) ?_ p hp r hr ⟨q, ⟨hp, hq, e⟩, hq, hr, f⟩
  rintro s t ⟨b, h1, h2⟩
  obtain ⟨a1, a2, a3⟩ := h.bis five s b h1
  obtain ⟨b1, b2, b3⟩ := h.bis five b t h2
  exact ⟨a1.trans b1, a2.trans b2, fun k hk => ⟨_, a3 k hk, b3 k (by omega)⟩⟩
/-- the first state that is not told apart -/
def hd (n : Nat) (A : Nat → Nat → Bool) (p : Nat) : Nat := ((List.range n).filter fun q => !A p q).headD 0
theorem Told.hd_at {A : Nat → Nat → Bool} (h : Told rows fin A) {p : Nat} (hp : p < rows.length) : ((List.range rows.length).filter fun q => !A p q)[0]? = some (hd rows.length A p) ∧ hd rows.length A p < rows.length ∧ A p (hd rows.length A p) = false := by
  have hm : p ∈ (List.range rows.length).filter fun q => !A p q := List.mem_filter.mpr ⟨List.mem_range.mpr hp, by rw [h.refl hp]; rfl⟩
  have key : ∀ x, x ∈ ((List.range rows.length).filter fun q => !A p q) → x < rows.length ∧ A p x = false := fun x hx => by
    obtain ⟨h1, h2⟩ := List.mem_filter.mp hx
    exact ⟨List.mem_range.mp h1, by simpa using h2⟩
  unfold hd
  revert hm key
  generalize ((List.range rows.length).filter fun q => !A p q) = l
  intro hm key
  cases l with
  | nil => cases hm
  | cons x l => exact ⟨rfl, key x List.mem_cons_self⟩
theorem Told.hd_eq (five : Five rows) {A : Nat → Nat → Bool} (h : Told rows fin A) {p q : Nat} (hp : p < rows.length) (hq : q < rows.length) : hd rows.length A p = hd rows.length A q ↔ A p q = false := by
  obtain ⟨_, l1, e1⟩ := h.hd_at hp
  obtain ⟨_, l2, e2⟩ := h.hd_at hq
  constructor
  · intro e
    exact h.trans five hp l1 hq e1 (by rw [e]; exact h.symm five hq l2 e2)
  · intro e
    unfold hd
    have : ((List.range rows.length).filter fun x => !A p x) = (List.range rows.length).filter fun x => !A q x := by
      refine List.filter_congr fun x hx => ?_
      have hx := List.mem_range.mp hx
      cases c : A p x with
      | false => rw [h.trans five hq hp hx (h.symm five hp hq e) c]
      | true =>
        cases d : A q x with
        | true => rfl
        | false => rw [h.trans five hp hq hx e d] at c; cases c
    rw [this]
theorem Told.hd_hd (five : Five rows) {A : Nat → Nat → Bool} (h : Told rows fin A) {p : Nat} (hp : p < rows.length) : hd rows.length A (hd rows.length A p) = hd rows.length A p := by
  obtain ⟨_, l1, e1⟩ := h.hd_at hp
  exact (h.hd_eq five l1 hp).mpr (h.symm five hp l1 e1)
theorem Told.hd_0 {A : Nat → Nat → Bool} (five : Five rows) (h : Told rows fin A) : hd rows.length A 0 = 0 := by
  have h0 := h.refl five.1
  unfold hd
  obtain ⟨n, e⟩ : ∃ n, rows.length = n + 1 := ⟨rows.length - 1, by have := five.1; omega⟩
  rw [e, List.range_succ_eq_map, List.filter_cons, h0]
  rfl
/-- the moves led to the heads -/
def joinR (rows : List (List Nat)) (A : Nat → Nat → Bool) : List (List Nat) := rows.map fun row => row.map (hd rows.length A)
theorem joinR_get {A : Nat → Nat → Bool} {s : Nat} (hs : s < rows.length) : (joinR rows A).getD s [] = (rows.getD s []).map (hd rows.length A) := by
  unfold joinR
  rw [List.getD_eq_getElem?_getD, List.getD_eq_getElem?_getD, List.getElem?_map, List.getElem?_eq_getElem hs]
  rfl
theorem joinR_len {A : Nat → Nat → Bool} : (joinR rows A).length = rows.length := by unfold joinR; rw [List.length_map]
theorem Told.sim (five : Five rows) {A : Nat → Nat → Bool} (h : Told rows fin A) : Sim rows fin (joinR rows A) fin (fun p q => p < rows.length ∧ q = hd rows.length A p) := by
  rintro p _ ⟨hp, rfl⟩
  obtain ⟨_, l1, e1⟩ := h.hd_at hp
  obtain ⟨f1, m1⟩ := h.2 p hp _ l1 e1
  refine ⟨f1, ?_⟩
  rw [joinR_get l1]
  have n1 := (five.2 p hp).1
  have n2 := (five.2 _ l1).1
  refine Rl.of (by rw [List.length_map, n1, n2]) fun k hk => ⟨five.mv_lt hp (by omega), ?_⟩
  rw [getD_map_lt (by omega)]
  exact ((h.hd_eq five (five.mv_lt hp (by omega)) (five.mv_lt l1 (by omega))).mpr (m1 k (by omega))).symm
/-- the way through the joined moves gives the least machine -/
theorem Told.least (five : Five rows) {A : Nat → Nat → Bool} (h : Told rows fin A) {o : List Nat} (bf : Bfs (joinR rows A) (fun x => x) 0 o.length o) (fx : ∀ s ∈ o, s < rows.length ∧ hd rows.length A s = s) (nd : o.Nodup) (h0 : o[0]? = some 0) (cl : ∀ s ∈ o, ∀ t ∈ (joinR rows A).getD s [], t ∈ o) :
    LeastOf (joinR rows A) fin o (fun x => x) o := by
  refine ⟨⟨nd, fun s hs => by rw [joinR_len]; exact (fx s hs).1, h0, cl⟩, ⟨fun s _ t _ e => by rw [show s = t from e]; exact ⟨rfl, rfl⟩, fun R hR s hs t ht r => ?_⟩, bf, fun s hs => hs, by rw [List.map_id']; exact nd⟩
  obtain ⟨ls, es⟩ := fx s hs
  obtain ⟨lt, et⟩ := fx t ht
  show s = t
  rw [← es, ← et]
  refine (h.hd_eq five ls lt).mpr (h.1 (fun p q => p < rows.length ∧ q < rows.length ∧ R (hd rows.length A p) (hd rows.length A q)) ?_ s ls t lt ⟨ls, lt, by rw [es, et]; exact r⟩)
  rintro p q ⟨hp, hq, z⟩
  obtain ⟨_, l1, e1⟩ := h.hd_at hp
  obtain ⟨_, l2, e2⟩ := h.hd_at hq
  obtain ⟨f1, m1⟩ := h.2 p hp _ l1 e1
  obtain ⟨f2, m2⟩ := h.2 q hq _ l2 e2
  obtain ⟨z1, z2, z3⟩ := hR _ _ z
  have n1 := (five.2 p hp).1
  have n2 := (five.2 q hq).1
  have n3 := (five.2 _ l1).1
  have n4 := (five.2 _ l2).1
  refine ⟨by rw [f1, f2, z1], by rw [n1, n2], fun k hk => ⟨five.mv_lt hp (by omega), five.mv_lt hq (by omega), ?_⟩⟩
  have := z3 k (by rw [joinR_get l1, List.length_map, n3]; omega)
  rw [joinR_get l1, joinR_get l2, getD_map_lt (by omega), getD_map_lt (by omega)] at this
  show R (hd rows.length A (mv rows p k)) (hd rows.length A (mv rows q k))
  rw [(h.hd_eq five (five.mv_lt hp (by omega)) (five.mv_lt l1 (by omega))).mpr (m1 k (by omega)), (h.hd_eq five (five.mv_lt hq (by omega)) (five.mv_lt l2 (by omega))).mpr (m2 k (by omega))]
  exact this
end
def mfl (x y : V) : List (Str × V) := [(Str.ofString "rows", x), (Str.ofString "finals", y)]
/-- at p stands a Machine of the class C with these rows and finals -/
def MachAt (K : PySem.W.Frag) (C : Addr) (H : Hp) (p : Addr) (R : List (List Nat)) (F : List Bool) : Prop := ∃ dx x y, H p = some (.ins C dx (mfl x y)) ∧ Dp K H x (rowsD R) ∧ Dp K H y (finsD F)
theorem MachAt.same {C : Addr} {H H' : Hp} {p : Addr} {R : List (List Nat)} {F : List Bool} (h : MachAt K C H p R F) (e : Same H H') : MachAt K C H' p R F :=
  let ⟨dx, x, y, a, b, c⟩ := h
  ⟨dx, x, y, e _ _ a, Gx.dp_same e _ _ b, Gx.dp_same e _ _ c⟩
theorem rowsD_at {H : Hp} {x : V} {R : List (List Nat)} (h : Dp K H x (rowsD R)) : ∃ r xs, x = .ref r ∧ SqT K H r xs ∧ DpAll K H xs (R.map rowD) := by
  unfold rowsD at h
  cases h with
  | tup a b => exact ⟨_, _, rfl, a, b⟩
theorem rowD_at {H : Hp} {x : V} {R : List Nat} (h : Dp K H x (rowD R)) : ∃ r, x = .ref r ∧ SqT K H r (R.map fun n => V.int (n : Nat)) := by
  unfold rowD at h
  cases h with
  | tup a b =>
    refine ⟨_, rfl, ?_⟩
    have e : ∀ {l : List Nat} {xs : List V}, DpAll K H xs (l.map fun n => PyData.int (n : Nat)) → xs = l.map fun n => V.int (n : Nat) := by
      intro l
      induction l with
      | nil => intro xs h; cases h; rfl
      | cons x l ih =>
        intro xs h
        cases h with
        | cons a t =>
          cases a
          rw [List.map_cons, ih t]
    rw [← e b]
    exact a
theorem finsD_at {H : Hp} {x : V} {F : List Bool} (h : Dp K H x (finsD F)) : ∃ r, x = .ref r ∧ SqT K H r (F.map V.bl) := by
  unfold finsD at h
  cases h with
  | tup a b =>
    refine ⟨_, rfl, ?_⟩
    have e : ∀ {l : List Bool} {xs : List V}, DpAll K H xs (l.map PyData.bool) → xs = l.map V.bl := by
      intro l
      induction l with
      | nil => intro xs h; cases h; rfl
      | cons x l ih =>
        intro xs h
        cases h with
        | cons a t =>
          cases a
          rw [List.map_cons, ih t]
    rw [← e b]
    exact a
theorem rows_get {H : Hp} {xs : List V} : ∀ {R : List (List Nat)} {i : Nat} {row : List Nat}, DpAll K H xs (R.map rowD) → R[i]? = some row → ∃ r, xs[i]? = some (.ref r) ∧ SqT K H r (row.map fun n => V.int (n : Nat)) := by
  induction xs with
  | nil =>
    intro R i row h e
    cases R with
    | nil => cases e
    | cons _ _ => cases h
  | cons x xs ih =>
    intro R i row h e
    cases R with
    | nil => cases e
    | cons r0 R =>
      cases h with
      | cons a t =>
        cases i with
        | zero =>
          cases e
          obtain ⟨r, rfl, hr⟩ := rowD_at a
          exact ⟨r, rfl, hr⟩
        | succ i => exact ih t (by simpa using e)
/-- the rows of a machine, as rows handed to another one -/
theorem rowsAt_of {H : Hp} {r : Addr} {R : List (List Nat)} (h : Dp K H (.ref r) (rowsD R)) : RowsAt K H r R := by
  obtain ⟨r', xs, e, hx, hd⟩ := rowsD_at h
  cases e
  refine ⟨xs, .inr hx, by rw [Gx.dpAll_len hd, List.length_map], fun i row hi => ?_⟩
  obtain ⟨r, h1, h2⟩ := rows_get hd hi
  exact ⟨r, h1, .inr h2⟩
theorem noL_fins (l : List Bool) : Gx.noLs (l.map PyData.bool) = true := by
  induction l with
  | nil => rfl
  | cons x l ih => rw [List.map_cons, Gx.noLs, ih]; rfl
def sp_minit (K : PySem.W.Frag) (C : Addr) : Sp := fun vs H Q _ => ∃ (p dx a f : Addr) (rows : List (List Nat)) (fin : List Bool), vs = [.ref p, .ref a, .ref f] ∧ H p = some (.ins C dx []) ∧ RowsAt K H a rows ∧ RowsOk rows ∧ Gx.Sq K H f (fin.map V.bl) ∧ fin.length = rows.length ∧
  (∀ o mk pk, LeastOf rows fin o mk pk → pk.length ≤ 100) ∧ ∀ H' x y o mk pk, LeastOf rows fin o mk pk → H' p = some (.ins C dx (mfl x y)) → Dp K H' x (rowsD (lRows rows mk pk)) → Dp K H' y (finsD (lFins fin pk)) → (∀ b u, b ≠ p → H b = some u → H' b = some u) → Q .non H'
theorem G_Machine_init (T : Txt K mg w) : FnOk P w K mg base CX0 4 T.f_Machine_init T.fd_Machine_init ["self", "rows", "finals"] (sp_minit K T.a_Machine) := by
  have G_least := G_least (P := P) (w := w) (base := base) T
  refine T.F_Machine_init.ok sc_Machine_init (fun vs H Q E h => ?_) (fun cdv A outer s H vs Q E hr h => ?_)
  · obtain ⟨p, dx, a, f, rows, fin, rfl, _⟩ := h
    rfl
  · obtain ⟨p, dx, a, f, rows, fin, rfl, hp, hR, ok, hF, hfl, h100, q⟩ := h
    refine ⟨_, ((pss_cons (ps_set (i := 3) sc_Machine_init.nd rfl (Or.inl rfl) (pe_call G_least (hr.mono (by first | decide | omega)) (by rfl) T.g_least T.F_least.kp T.b_least .nil pass0 (pa_cons (pv 1) (pa_cons (pv 2) pa_nil))))
  (pss_cons (ps_if (pt_cmpR op_gt (pe_callB Gx.cr_lenQ (by rfl) T.z_len bt_len (pa_cons (pe_ix ix_tup (pv 3) pe_int (fun _ _ => rfl)) pa_nil)) (pe_glob (v := .int 100) rfl T.g_MOST_STATES ⟨_, rfl⟩) (nomark _))
  (pss_one Gx.ps_no)
  pss_nil)
  (pss_cons (ps_fld (pv 0) (pe_ix ix_tup (pv 3) pe_int (fun _ _ => rfl)) rfl)
  (pss_one (ps_fld (pv 0) (pe_ix ix_tup (pv 3) pe_int (fun _ _ => rfl)) rfl)))))), ?_⟩
    rw [st_Machine_init]
    try dsimp only [cxOf]
    walk_at "g"
    refine ⟨a, f, rows, fin, rfl, hR, ok, hF, hfl, fun H1 u x y o mk pk s1 e1 lo dx1 dy1 => ?_⟩
    have ht1 := SqT.of (K := K) e1
    walk_at "g"
    obtain ⟨r1, xs, rfl, hx, hdx⟩ := rowsD_at dx1
    have hxl := Gx.dpAll_len hdx
    have h100' := h100 o mk pk lo
    have hxl' : xs.length = pk.length := by rw [hxl]; unfold lRows; simp
    refine Gx.lenQ (.inr hx) ?_
    walk_at "g"
    refine Gx.iteD (fun c => absurd c (by omega)) (fun c => ?_)
    walk_at "g"
    refine ⟨p, T.a_Machine, dx, _, rfl, s1 _ _ hp, T.c_Machine, T.n_Machine_rows, by decide, ?_⟩
    have hne : u ≠ p := fun e => by
      rw [e, s1 _ _ hp] at e1
      cases e1
    have t1 := tups_upd (K := K) (v := .ins T.a_Machine dx (putF "rows" (V.ref r1) [])) (s1 _ _ hp) (by intro _ z; cases z) (by intro _ _ z; cases z)
    have e2 : (upd H1 p (.ins T.a_Machine dx (putF "rows" (V.ref r1) []))) p = some (.ins T.a_Machine dx (putF "rows" (V.ref r1) [])) := upd_same
    have k2 : ∀ b v, b ≠ p → H1 b = some v → (upd H1 p (.ins T.a_Machine dx (putF "rows" (V.ref r1) []))) b = some v := fun b v hb e => by rw [upd_ne hb]; exact e
    generalize upd H1 p (.ins T.a_Machine dx (putF "rows" (V.ref r1) [])) = H2 at t1 e2 k2 ⊢
    have ht2 := SqT.of (K := K) (k2 _ _ hne e1)
    walk_at "g"
    refine ⟨p, T.a_Machine, dx, _, rfl, e2, T.c_Machine, T.n_Machine_finals, by show 1 < 1000; decide, ?_⟩
    have t2 := tups_upd (K := K) (v := .ins T.a_Machine dx (putF "finals" y (putF "rows" (V.ref r1) []))) e2 (by intro _ z; cases z) (by intro _ _ z; cases z)
    walk_at "g"
    refine q _ (.ref r1) y o mk pk lo upd_same ?_ ?_ fun b v hb e => by rw [upd_ne hb]; exact k2 b v hb (s1 _ _ e)
    · exact Gx.dp_tups (fun a xs z => t2 a xs (t1 a xs z)) _ _ (noLs_rows _) dx1
    · exact Gx.dp_tups (fun a xs z => t2 a xs (t1 a xs z)) _ _ (noL_fins _) dy1
end
end K15
namespace K15
open PySem PySem.Spec PyProof.Rows L2
local macro_rules | `(tactic| walk_at "con") => `(tactic| first | with_reducible refine Gx.conE K15.ks0 ?_ | with_reducible refine Gx.conE K15.ks1 ?_ | with_reducible refine Gx.conE K15.ks2 ?_ | with_reducible refine Gx.conE K15.ks3 ?_ | with_reducible refine Gx.conE K15.ks4 ?_ | with_reducible refine Gx.conE K15.ks5 ?_ | with_reducible refine Gx.conE K15.ks6 ?_ | with_reducible refine Gx.conE K15.ks7 ?_ | with_reducible refine Gx.conE K15.ks8 ?_ | with_reducible refine Gx.conE K15.ks9 ?_ | with_reducible refine Gx.conE K15.ks10 ?_ | with_reducible refine Gx.conE K15.ks11 ?_ | with_reducible refine Gx.conE K15.ks12 ?_ | with_reducible refine Gx.conE K15.ks13 ?_ | with_reducible refine Gx.conE K15.ks14 ?_ | with_reducible refine Gx.conE K15.ks15 ?_)
section
variable {P : Program} {w : World} {K : PySem.W.Frag} {mg : Str → Option Value} {base : Heap}
theorem lk_rows (x y : V) : (mfl x y).lookup (Str.ofString "rows") = some x := rfl
theorem lk_finals (x y : V) : (mfl x y).lookup (Str.ofString "finals") = some y := rfl
/-- the machine of an automaton is made -/
theorem mk_mach {C : Addr} {H : Hp} {a f : Addr} {rows : List (List Nat)} {fin : List Bool} {Q : Addr → Hp → Prop} {E : XK} (hR : RowsAt K H a rows) (ok : RowsOk rows) (hF : Gx.Sq K H f (fin.map V.bl)) (hfl : fin.length = rows.length) (h100 : ∀ o mk pk, LeastOf rows fin o mk pk → pk.length ≤ 100)
    (q : ∀ H' p o mk pk, Same H H' → LeastOf rows fin o mk pk → MachAt K C H' p (lRows rows mk pk) (lFins fin pk) → Q p H') :
    ∀ x dx, H x = none → H dx = none → dx ≠ x → sp_minit K C (.ref x :: [.ref a, .ref f]) (upd (upd H dx (.own x)) x (.ins C dx [])) (fun v H2 => v = .non ∧ Q x H2) E := by
  intro x dx nx nd ne
  have s1 : Same H (upd (upd H dx (.own x)) x (.ins C dx [])) := Gx.Same.put (Gx.Same.put (Same.refl H) nd) nx
  refine ⟨x, dx, a, f, rows, fin, rfl, upd_same, hR.same s1, ok, hF.same s1, hfl, h100, fun H' vx vy o mk pk lo e1 d1 d2 k => ⟨rfl, q H' x o mk pk (fun b u e => k b u (ne_of_none e nx) (s1 b u e)) lo ⟨dx, vx, vy, e1, d1, d2⟩⟩⟩
theorem eqv_ints : ∀ l l' : List Nat, PyData.eqvAll (l.map fun n => PyData.int (n : Nat)) (l'.map fun n => PyData.int (n : Nat)) = decide (l = l')
  | [], [] => by simp [PyData.eqvAll]
  | [], _ :: _ => by simp [PyData.eqvAll]
  | _ :: _, [] => by simp [PyData.eqvAll]
  | x :: l, y :: l' => by
    rw [List.map_cons, List.map_cons, PyData.eqvAll, PyData.eqv, eqv_ints l l']
    by_cases e : x = y
    · subst e
      simp
    · have : ((x : Int) == (y : Int)) = false := by simp; omega
      rw [this]
      simp [e]
theorem eqv_rowD (l l' : List Nat) : PyData.eqv (rowD l) (rowD l') = decide (l = l') := by
  unfold rowD
  rw [PyData.eqv]
  exact eqv_ints l l'
theorem eqv_rows : ∀ l l' : List (List Nat), PyData.eqvAll (l.map rowD) (l'.map rowD) = decide (l = l')
  | [], [] => by simp [PyData.eqvAll]
  | [], _ :: _ => by simp [PyData.eqvAll]
  | _ :: _, [] => by simp [PyData.eqvAll]
  | x :: l, y :: l' => by
    rw [List.map_cons, List.map_cons, PyData.eqvAll, eqv_rowD, eqv_rows l l']
    by_cases e : x = y
    · subst e
      simp
    · simp [e]
theorem eqv_rowsD (l l' : List (List Nat)) : PyData.eqv (rowsD l) (rowsD l') = decide (l = l') := by
  unfold rowsD
  rw [PyData.eqv]
  exact eqv_rows l l'
theorem eqv_fins : ∀ l l' : List Bool, PyData.eqvAll (l.map PyData.bool) (l'.map PyData.bool) = decide (l = l')
  | [], [] => by simp [PyData.eqvAll]
  | [], _ :: _ => by simp [PyData.eqvAll]
  | _ :: _, [] => by simp [PyData.eqvAll]
  | x :: l, y :: l' => by
    rw [List.map_cons, List.map_cons, PyData.eqvAll, PyData.eqv, eqv_fins l l']
    by_cases e : x = y
    · subst e
      simp
    · have : (x == y) = false := by simpa using e
      rw [this]
      simp [e]
theorem eqv_finsD (l l' : List Bool) : PyData.eqv (finsD l) (finsD l') = decide (l = l') := by
  unfold finsD
  rw [PyData.eqv]
  exact eqv_fins l l'
theorem can_ints : ∀ l : List Nat, PyData.canLayAll0 (l.map fun n => PyData.int (n : Nat)) = true
  | [] => rfl
  | x :: l => by rw [List.map_cons, PyData.canLayAll0, can_ints l, PyData.canLay0]; rfl
theorem can_rows : ∀ l : List (List Nat), PyData.canLayAll0 (l.map rowD) = true
  | [] => rfl
  | x :: l => by rw [List.map_cons, PyData.canLayAll0, can_rows l, rowD, PyData.canLay0, can_ints]; rfl
theorem can_fins : ∀ l : List Bool, PyData.canLayAll0 (l.map PyData.bool) = true
  | [] => rfl
  | x :: l => by rw [List.map_cons, PyData.canLayAll0, can_fins l, PyData.canLay0]; rfl
theorem dep_ints : ∀ l : List Nat, PyData.depthAll (l.map fun n => PyData.int (n : Nat)) = 0
  | [] => by simp [PyData.depthAll]
  | x :: l => by rw [List.map_cons, PyData.depthAll, dep_ints l, PyData.depth]; rfl
theorem dep_rows : ∀ l : List (List Nat), PyData.depthAll (l.map rowD) ≤ 1
  | [] => by simp [PyData.depthAll]
  | x :: l => by
    have := dep_rows l
    have h2 := dep_ints x
    simp only [List.map_cons, PyData.depthAll, rowD, PyData.depth] at *
    omega
theorem dep_fins : ∀ l : List Bool, PyData.depthAll (l.map PyData.bool) = 0
  | [] => by simp [PyData.depthAll]
  | x :: l => by rw [List.map_cons, PyData.depthAll, dep_fins l, PyData.depth]; rfl
theorem shaped_rowsD (l : List (List Nat)) : SeqAt.shaped (rowsD l) = true := by
  unfold SeqAt.shaped rowsD
  rw [PyData.canLay0, can_rows, Bool.true_and]
  have := dep_rows l
  refine decide_eq_true ?_
  simp only [PyData.depth]
  omega
theorem shaped_finsD (l : List Bool) : SeqAt.shaped (finsD l) = true := by
  unfold SeqAt.shaped finsD
  rw [PyData.canLay0, can_fins, Bool.true_and]
  have := dep_fins l
  refine decide_eq_true ?_
  simp only [PyData.depth]
  omega
def sp_mstates (K : PySem.W.Frag) (C : Addr) : Sp := fun vs H Q _ => ∃ p R F, vs = [.ref p] ∧ MachAt K C H p R F ∧ Q (.int R.length) H
theorem G_Machine_states (T : Txt K mg w) : FnOk P w K mg base CX0 1 T.f_Machine_states T.fd_Machine_states ["self"] (sp_mstates K T.a_Machine) := by
  refine T.F_Machine_states.ok sc_Machine_states (fun vs H Q E h => ?_) (fun cdv A outer s H vs Q E hr h => ?_)
  · obtain ⟨p, R, F, rfl, _⟩ := h
    rfl
  · obtain ⟨p, R, F, rfl, ⟨dx, x, y, hp, d1, d2⟩, q⟩ := h
    refine ⟨_, ((pss_one (ps_ret (pe_callB Gx.cr_lenQ (by rfl) T.z_len bt_len (pa_cons (pe_fld (pv 0) rfl) pa_nil))))), ?_⟩
    rw [st_Machine_states]
    try dsimp only [cxOf]
    walk_at "g"
    refine ⟨p, T.a_Machine, dx, _, _, rfl, hp, T.c_Machine, T.n_Machine_rows, lk_rows _ _, ?_⟩
    obtain ⟨r, xs, rfl, hx, hd⟩ := rowsD_at d1
    walk_at "g"
    rw [Gx.dpAll_len hd, List.length_map]
    exact q
/-- the place of a sign -/
def plc (c : Nat) : Option Nat := if c = 58 then some 0 else if c = 59 then some 1 else if c = 97 then some 2 else if c = 98 then some 3 else if c = 99 then some 4 else none
/-- the state behind a text -/
def runM (R : List (List Nat)) : Nat → List Nat → Option Nat
  | s, [] => some s
  | s, c :: l => match plc c with
    | none => none
    | some k => runM R (mv R s k) l
def oV : Option Nat → V
  | none => .non
  | some s => .int (s : Nat)
theorem runM_app (R : List (List Nat)) : ∀ (l : List Nat) (s : Nat) (m : List Nat), runM R s (l ++ m) = (runM R s l).bind fun t => runM R t m
  | [], s, m => rfl
  | c :: l, s, m => by
    rw [List.cons_append, runM, runM]
    cases plc c with
    | none => rfl
    | some k => exact runM_app R l _ m
theorem plc_lt {c k : Nat} (h : plc c = some k) : k < 5 := by
  unfold plc at h
  repeat' split at h
  all_goals first | cases h; omega | cases h
theorem getS_plc (c : Nat) : Gx.getS [(":", 0), (";", 1), ("a", 2), ("b", 3), ("c", 4)] (Gx.mkS [c]) = (plc c).map (fun k : Nat => (k : Int)) := by
  have hs : ∀ n : Nat, (Gx.mkS [n] == Gx.mkS [c]) = decide (c = n) := fun n => by
    rw [show (Gx.mkS [n] == Gx.mkS [c]) = decide (Gx.mkS [n] = Gx.mkS [c]) from rfl]
    exact decide_eq_decide.mpr (by rw [Gx.mkS_inj]; simp [eq_comm])
  have e1 : (":" : Str) = Gx.mkS [58] := Gx.ofS ":"
  have e2 : (";" : Str) = Gx.mkS [59] := Gx.ofS ";"
  have e3 : ("a" : Str) = Gx.mkS [97] := Gx.ofS "a"
  have e4 : ("b" : Str) = Gx.mkS [98] := Gx.ofS "b"
  have e5 : ("c" : Str) = Gx.mkS [99] := Gx.ofS "c"
  rw [e1, e2, e3, e4, e5]
  simp only [Gx.getS, hs, decide_eq_true_eq]
  unfold plc
  repeat' split
  all_goals rfl
theorem runM_lt {R : List (List Nat)} (five : Five R) : ∀ (l : List Nat) (s t : Nat), s < R.length → runM R s l = some t → t < R.length
  | [], s, t, hs, h => by cases h; exact hs
  | c :: l, s, t, hs, h => by
    rw [runM] at h
    cases e : plc c with
    | none => rw [e] at h; cases h
    | some k =>
      rw [e] at h
      exact runM_lt five l _ t (five.mv_lt hs (plc_lt e)) h
def sp_safter (K : PySem.W.Frag) (C : Addr) : Sp := fun vs H Q _ => ∃ p R F l, vs = [.ref p, .str (Gx.mkS l)] ∧ MachAt K C H p R F ∧ Five R ∧ Q (oV (runM R 0 l)) H
theorem G_Machine_state_after (T : Txt K mg w) : FnOk P w K mg base CX0 1 T.f_Machine_state_after T.fd_Machine_state_after ["self", "text"] (sp_safter K T.a_Machine) := by
  refine T.F_Machine_state_after.ok sc_Machine_state_after (fun vs H Q E h => ?_) (fun cdv A outer s H vs Q E hr h => ?_)
  · obtain ⟨p, R, F, l, rfl, _⟩ := h
    rfl
  · obtain ⟨p, R, F, l, rfl, ⟨dx, x, y, hp, d1, d2⟩, five, q⟩ := h
    obtain ⟨r, xs, rfl, hx, hd⟩ := rowsD_at d1
    refine ⟨_, ((pss_cons (ps_set (i := 2) sc_Machine_state_after.nd rfl (Or.inl rfl) pe_int)
  (pss_cons (ps_for PassesOwn.never rfl (pi_str (pv 1)) (pg_name (i := 3) sc_Machine_state_after.nd rfl (Or.inl rfl))
  (pss_cons (ps_set (i := 4) sc_Machine_state_after.nd rfl (Or.inl rfl) (Gx.pe_kget T.kd_PLACES T.g_PLACES rfl (pv 3) (pe_un un_neg pe_int) ⟨rfl, rfl, rfl, rfl⟩))
  (pss_cons (ps_if (pt_cmpR op_lt (pv 4) pe_int (nomark _))
  (pss_one (ps_ret pe_non))
  pss_nil)
  (pss_one (ps_set (i := 2) sc_Machine_state_after.nd rfl (Or.inl rfl) (pe_ix ix_seq (pe_ix ix_tup (pe_fld (pv 0) rfl) (pv 2) (fun _ _ => rfl)) (pv 4) (fun _ _ => rfl)))))))
  (pss_one (ps_ret (pv 2)))))), ?_⟩
    rw [st_Machine_state_after]
    try dsimp only [cxOf]
    walk_at "g"
    refine Gx.for_str (fun i σ H' => H' = H ∧ ∃ (s : Nat) (y1 y2 : Option V), runM R 0 (l.take i) = some s ∧ σ = [some (.ref p), some (.str (Gx.mkS l)), some (.int (s : Nat)), y1, y2]) ⟨rfl, 0, none, none, rfl, rfl⟩ ?_ ?_
    · rintro i c σ H' hc ⟨rfl, s, y1, y2, hs, rfl⟩
      have hsl := runM_lt five _ _ _ five.1 hs
      have hstep : runM R 0 (l.take (i + 1)) = (plc c).map fun k => mv R s k := by
        rw [List.take_add_one, hc, Option.toList_some, runM_app, hs, Option.bind_some, runM]
        cases plc c <;> rfl
      have hrest : plc c = none → runM R 0 l = none := fun e => by
        rw [e] at hstep
        rw [← List.take_append_drop (i + 1) l, runM_app, hstep]
        rfl
      walk_at "g"
      rw [getS_plc]
      cases hp' : plc c with
      | none =>
        rw [hrest hp'] at q
        show rI0 _ (V.int (-1)) (V.int 0) H' _
        walk_at "g"
        exact q
      | some k =>
        have hk := plc_lt hp'
        rw [hp'] at hstep
        show rI0 _ (V.int (k : Nat)) (V.int 0) H' _
        walk_at "g"
        refine Gx.iteD (fun c => absurd c (by omega)) (fun _ => ?_)
        walk_at "g"
        refine ⟨p, T.a_Machine, dx, _, _, rfl, hp, T.c_Machine, T.n_Machine_rows, lk_rows _ _, ?_⟩
        obtain ⟨r2, e2, h2⟩ := rows_get hd (List.getElem?_eq_getElem hsl)
        walk_at "g"
        refine Gx.ixT hx (Gx.atI_of (k := s) rfl e2) ?_
        walk_at "g"
        have hrl := (five.2 s hsl).1
        refine Gx.ixQ (k := k) (.inr h2) rfl (v := .int (mv R s k : Nat)) ?_ ?_
        · rw [List.getElem?_map]
          unfold mv
          rw [List.getD_eq_getElem?_getD, List.getD_eq_getElem?_getD, List.getElem?_eq_getElem hsl, Option.getD_some]
          rw [List.getD_eq_getElem?_getD, List.getElem?_eq_getElem hsl, Option.getD_some] at hrl
          rw [List.getElem?_eq_getElem (by omega)]
          rfl
        · walk_at "g"
          exact ⟨rfl, mv R s k, _, _, hstep, rfl⟩
    · rintro σ H' ⟨rfl, s, y1, y2, hs, rfl⟩
      rw [List.take_length] at hs
      walk_at "g"
      rw [hs] at q
      exact q
def sp_contains (K : PySem.W.Frag) (C : Addr) : Sp := fun vs H Q _ => ∃ p R F l, vs = [.ref p, .str (Gx.mkS l)] ∧ MachAt K C H p R F ∧ Five R ∧ F.length = R.length ∧ Q (.bl (match runM R 0 l with | none => false | some s => F.getD s false)) H
theorem G_Machine_contains (T : Txt K mg w) : FnOk P w K mg base CX0 2 T.f_Machine_contains T.fd_Machine_contains ["self", "text"] (sp_contains K T.a_Machine) := by
  have G_Machine_state_after := G_Machine_state_after (P := P) (w := w) (base := base) T
  refine T.F_Machine_contains.ok sc_Machine_contains (fun vs H Q E h => ?_) (fun cdv A outer s H vs Q E hr h => ?_)
  · obtain ⟨p, R, F, l, rfl, _⟩ := h
    rfl
  · obtain ⟨p, R, F, l, rfl, hm, five, hF, q⟩ := h
    refine ⟨_, ((pss_cons (ps_set (i := 2) sc_Machine_contains.nd rfl (Or.inl rfl) (pe_meth (pv 0) T.c_Machine T.m_Machine_state_after G_Machine_state_after (hr.mono (by first | decide | omega)) T.b_Machine_state_after .nil pass0 (pa_cons (pv 1) pa_nil)))
  (pss_one (ps_ret (pe_and (pe_cmpR Gx.op_notNG (pv 2) pe_non (nomark _)) (pe_one (pe_ix ix_tup (pe_fld (pv 0) rfl) (pv 2) (fun _ _ => rfl)))))))), ?_⟩
    rw [st_Machine_contains]
    try dsimp only [cxOf]
    walk_at "g"
    obtain ⟨dx, x, y, hp, d1, d2⟩ := id hm
    refine ⟨p, dx, _, rfl, hp, rfl, ?_⟩
    walk_at "g"
    refine ⟨p, R, F, l, rfl, hm, five, ?_⟩
    obtain ⟨r, rfl, hx⟩ := finsD_at d2
    cases hr : runM R 0 l with
    | none =>
      rw [hr] at q
      show (fun x H1 => gName 2 x [some (V.ref p), some (V.str (Gx.mkS l)), none] H1 _) V.non H
      walk_at "g"
      exact q
    | some s =>
      have hsl := runM_lt five _ _ _ five.1 hr
      rw [hr] at q
      show (fun x H1 => gName 2 x [some (V.ref p), some (V.str (Gx.mkS l)), none] H1 _) (V.int (s : Nat)) H
      walk_at "g"
      refine ⟨p, T.a_Machine, dx, _, _, rfl, hp, T.c_Machine, T.n_Machine_finals, lk_finals _ _, ?_⟩
      walk_at "g"
      refine Gx.ixT hx (Gx.atI_of (k := s) rfl (v := .bl (F.getD s false)) ?_) ?_
      · rw [List.getElem?_map, List.getD_eq_getElem?_getD, List.getElem?_eq_getElem (by omega)]
        rfl
      · exact q
def sp_meq (K : PySem.W.Frag) (C : Addr) : Sp := fun vs H Q _ => ∃ (p : Addr) (y : V) (R : List (List Nat)) (F : List Bool), vs = [.ref p, y] ∧ MachAt K C H p R F ∧
  ((∃ p2 R2 F2, y = .ref p2 ∧ MachAt K C H p2 R2 F2 ∧ Q (.bl (decide (R = R2 ∧ F = F2))) H) ∨ (∃ t : Value, TyX K H y t ∧ PySem.W.kitOne K t (.ref C) = some false ∧ Q (.bl false) H))
theorem G_Machine_eq (T : Txt K mg w) : FnOk P w K mg base CX0 1 T.f_Machine_eq T.fd_Machine_eq ["self", "other"] (sp_meq K T.a_Machine) := by
  refine T.F_Machine_eq.ok sc_Machine_eq (fun vs H Q E h => ?_) (fun cdv A outer s H vs Q E hr h => ?_)
  · obtain ⟨p, y, R, F, rfl, _⟩ := h
    rfl
  · obtain ⟨p, y, R, F, rfl, ⟨dx, vx, vy, hp, d1, d2⟩, hq⟩ := h
    refine ⟨_, ((pss_one (ps_ret (pe_and (pe_callB call_isi (by rfl) T.z_isinstance bt_isinstance (pa_cons (pv 1) (pa_cons (pe_glob (v := .ref T.a_Machine) rfl T.g_Machine rfl) pa_nil))) (pe_and (pe_cmpR (op_eqD hr.units) (pe_fld (pv 0) rfl) (pe_fld (pv 1) rfl) (nomark _)) (pe_one (pe_cmpR (op_eqD hr.units) (pe_fld (pv 0) rfl) (pe_fld (pv 1) rfl) (nomark _)))))))), ?_⟩
    rw [st_Machine_eq]
    try dsimp only [cxOf]
    walk_at "g"
    have tyS : ∀ {p dx fs}, H p = some (.ins T.a_Machine dx fs) → TyX K H (.ref p) (.ref T.a_Machine) := fun h => .base (.ins h T.c_Machine T.ha_Machine T.hn_ T.htk_ T.hm_Machine)
    rcases hq with ⟨p2, R2, F2, rfl, ⟨dx2, vx2, vy2, hp2, d3, d4⟩, q⟩ | ⟨t, ty, kt, q⟩
    · refine Gx.isi (.own _) (tyS hp2) (b := true) (by simp [PySem.W.kitOne]) ?_
      walk_at "g"
      refine ⟨p, T.a_Machine, dx, _, _, rfl, hp, T.c_Machine, T.n_Machine_rows, lk_rows _ _, ?_⟩
      walk_at "g"
      refine ⟨p2, T.a_Machine, dx2, _, _, rfl, hp2, T.c_Machine, T.n_Machine_rows, lk_rows _ _, ?_⟩
      walk_at "g"
      refine ⟨_, _, d1, d3, shaped_rowsD _, shaped_rowsD _, ?_⟩
      rw [eqv_rowsD]
      walk_at "g"
      refine Gx.iteD (fun h1 => ?_) (fun h1 => ?_)
      · walk_at "g"
        refine ⟨p, T.a_Machine, dx, _, _, rfl, hp, T.c_Machine, T.n_Machine_finals, lk_finals _ _, ?_⟩
        walk_at "g"
        refine ⟨p2, T.a_Machine, dx2, _, _, rfl, hp2, T.c_Machine, T.n_Machine_finals, lk_finals _ _, ?_⟩
        walk_at "g"
        refine ⟨_, _, d2, d4, shaped_finsD _, shaped_finsD _, ?_⟩
        rw [eqv_finsD, show decide (F = F2) = decide (R = R2 ∧ F = F2) from decide_eq_decide.mpr ⟨fun h => ⟨h1, h⟩, fun h => h.2⟩]
        exact q
      · walk_at "g"
        rw [show decide (R = R2 ∧ F = F2) = false from decide_eq_false fun h => h1 h.1] at q
        exact q
    · refine Gx.isi (.own _) ty kt ?_
      walk_at "g"
      exact q
/-- at a: a list of lists of numbers -/
def LsAt (K : PySem.W.Frag) (H : Hp) (a : Addr) (rows : List (List Nat)) : Prop := ∃ vs : List V, SqL K H a vs ∧ vs.length = rows.length ∧ ∀ (i : Nat) (row : List Nat), rows[i]? = some row → ∃ r, vs[i]? = some (V.ref r) ∧ SqL K H r (row.map fun n => V.int (n : Nat))
theorem LsAt.same {H H' : Hp} {a : Addr} {rows : List (List Nat)} (h : LsAt K H a rows) (e : Same H H') : LsAt K H' a rows :=
  let ⟨vs, h1, h2, h3⟩ := h
  ⟨vs, e.seq h1, h2, fun i row hi => let ⟨r, a, b⟩ := h3 i row hi; ⟨r, a, e.seq b⟩⟩
theorem LsAt.rows {H : Hp} {a : Addr} {rows : List (List Nat)} (h : LsAt K H a rows) : RowsAt K H a rows :=
  let ⟨vs, h1, h2, h3⟩ := h
  ⟨vs, .inl h1, h2, fun i row hi => let ⟨r, a, b⟩ := h3 i row hi; ⟨r, a, .inl b⟩⟩
theorem Five.ok {rows : List (List Nat)} (h : Five rows) (n : rows.length ≤ 20000) : RowsOk rows := by
  refine ⟨h.1, n, fun row hr => ?_⟩
  obtain ⟨i, hi⟩ := List.mem_iff_getElem?.mp hr
  have hil := (List.getElem?_eq_some_iff.mp hi).1
  obtain ⟨l, t⟩ := h.2 i hil
  rw [List.getD_eq_getElem?_getD, hi, Option.getD_some] at l t
  exact ⟨by omega, t⟩
/-- at d: a list of lists, made here -/
def LsP (H : Hp) (d : Addr) (rows : List (List V)) : Prop := ∃ rs : List Addr, H d = some (.lst (rs.map V.ref)) ∧ rs.length = rows.length ∧ d ∉ rs ∧ ∀ (j : Nat) (r : Addr) (row : List V), rs[j]? = some r → rows[j]? = some row → H r = some (.lst row)
theorem LsP.same {H H' : Hp} {d : Addr} {rows : List (List V)} (m : LsP H d rows) (e : Same H H') : LsP H' d rows :=
  let ⟨rs, a, b, c, f⟩ := m
  ⟨rs, e _ _ a, b, c, fun j r row x y => e _ _ (f j r row x y)⟩
theorem LsP.nil {H : Hp} {d : Addr} (e : H d = some (.lst [])) : LsP H d [] := ⟨[], e, rfl, by simp, fun j r row x _ => by cases x⟩
theorem LsP.snoc {H H' : Hp} {d E : Addr} {rows : List (List V)} {row : List V} (m : LsP H d rows) (e : Same H H') (nE : H E = none) (hE : H' E = some (.lst row)) :
    ∃ acc, H' d = some (.lst acc) ∧ acc.length = rows.length ∧ LsP (upd H' d (.lst (acc ++ [.ref E]))) d (rows ++ [row]) := by
  obtain ⟨rs, a, b, c, f⟩ := m
  have ne : E ≠ d := fun z => by rw [z, a] at nE; cases nE
  refine ⟨rs.map V.ref, e _ _ a, by rw [List.length_map, b], rs ++ [E], by rw [upd_same, List.map_append]; rfl, by rw [List.length_append, List.length_append, b]; rfl, ?_, ?_⟩
  · intro z
    rcases List.mem_append.mp z with z | z
    · exact c z
    · exact ne (List.mem_singleton.mp z).symm
  · intro j r row' hr hw
    by_cases q : j < rs.length
    · rw [List.getElem?_append_left q] at hr
      rw [List.getElem?_append_left (by omega)] at hw
      rw [upd_ne (fun z : r = d => c (z ▸ List.mem_of_getElem? hr))]
      exact e _ _ (f j r row' hr hw)
    · have hl := (List.getElem?_eq_some_iff.mp hr).1
      rw [List.length_append, List.length_singleton] at hl
      have ej : j = rs.length := by omega
      subst ej
      rw [List.getElem?_append_right (Nat.le_refl _), Nat.sub_self] at hr
      rw [List.getElem?_append_right (by omega), b, Nat.sub_self] at hw
      cases hr
      cases hw
      rw [upd_ne ne]
      exact hE
theorem LsP.at_ {H : Hp} {d : Addr} {rows : List (List V)} (m : LsP H d rows) : ∃ vs, H d = some (.lst vs) ∧ vs.length = rows.length ∧ ∀ (i : Nat) (row : List V), rows[i]? = some row → ∃ r, vs[i]? = some (V.ref r) ∧ H r = some (.lst row) := by
  obtain ⟨rs, a, b, c, f⟩ := m
  refine ⟨rs.map V.ref, a, by rw [List.length_map, b], fun i row hi => ?_⟩
  have hil := (List.getElem?_eq_some_iff.mp hi).1
  have hr : rs[i]? = some rs[i] := List.getElem?_eq_getElem (by omega)
  exact ⟨rs[i], by rw [List.getElem?_map, hr]; rfl, f i _ row hr hi⟩
theorem LsP.lsAt {H : Hp} {d : Addr} {rows : List (List Nat)} (m : LsP H d (rows.map fun row => row.map fun n => V.int (n : Nat))) : LsAt K H d rows := by
  obtain ⟨vs, a, b, c⟩ := m.at_
  rw [List.length_map] at b
  refine ⟨vs, SqL.of a, b, fun i row hi => ?_⟩
  obtain ⟨r, h1, h2⟩ := c i _ (by rw [List.getElem?_map, hi]; rfl)
  exact ⟨r, h1, SqL.of h2⟩
end
end K15
namespace K15
open PySem PySem.Spec PyProof.Rows L2
local macro_rules | `(tactic| walk_at "con") => `(tactic| first | with_reducible refine Gx.conE K15.ks0 ?_ | with_reducible refine Gx.conE K15.ks1 ?_ | with_reducible refine Gx.conE K15.ks2 ?_ | with_reducible refine Gx.conE K15.ks3 ?_ | with_reducible refine Gx.conE K15.ks4 ?_ | with_reducible refine Gx.conE K15.ks5 ?_ | with_reducible refine Gx.conE K15.ks6 ?_ | with_reducible refine Gx.conE K15.ks7 ?_ | with_reducible refine Gx.conE K15.ks8 ?_ | with_reducible refine Gx.conE K15.ks9 ?_ | with_reducible refine Gx.conE K15.ks10 ?_ | with_reducible refine Gx.conE K15.ks11 ?_ | with_reducible refine Gx.conE K15.ks12 ?_ | with_reducible refine Gx.conE K15.ks13 ?_ | with_reducible refine Gx.conE K15.ks14 ?_ | with_reducible refine Gx.conE K15.ks15 ?_)
section
variable {P : Program} {w : World} {K : PySem.W.Frag} {mg : Str → Option Value} {base : Heap}
/-- at d: a list of n new lists of n truth values -/
def MatAt (H0 H : Hp) (d : Addr) (n : Nat) (A : Nat → Nat → Bool) : Prop := H0 d = none ∧ ∃ ps : List Addr, H d = some (.lst (ps.map V.ref)) ∧ ps.length = n ∧ ps.Nodup ∧ d ∉ ps ∧ (∀ r ∈ ps, H0 r = none) ∧ ∀ (p : Nat) (r : Addr), ps[p]? = some r → H r = some (.lst ((List.range n).map fun q => V.bl (A p q)))
/-- the first i of them -/
def MatP (H0 H : Hp) (d : Addr) (i n : Nat) (A : Nat → Nat → Bool) : Prop := H0 d = none ∧ ∃ ps : List Addr, H d = some (.lst (ps.map V.ref)) ∧ ps.length = i ∧ ps.Nodup ∧ d ∉ ps ∧ (∀ r ∈ ps, H0 r = none) ∧ ∀ (p : Nat) (r : Addr), ps[p]? = some r → H r = some (.lst ((List.range n).map fun q => V.bl (A p q)))
theorem MatP.same {H0 H H' : Hp} {d : Addr} {i n : Nat} {A : Nat → Nat → Bool} (m : MatP H0 H d i n A) (e : Same H H') : MatP H0 H' d i n A :=
  let ⟨a, ps, b, c, h, f, g, k⟩ := m
  ⟨a, ps, e _ _ b, c, h, f, g, fun p r z => e _ _ (k p r z)⟩
theorem MatP.snoc {H0 H H' : Hp} {d E : Addr} {i n : Nat} {A : Nat → Nat → Bool} (m : MatP H0 H d i n A) (e : Same H H') (nE : H E = none) (hE : H' E = some (.lst ((List.range n).map fun q => V.bl (A i q)))) (fE : H0 E = none) :
    ∃ acc, H' d = some (.lst acc) ∧ acc.length = i ∧ MatP H0 (upd H' d (.lst (acc ++ [.ref E]))) d (i + 1) n A := by
  obtain ⟨a, ps, b, c, h, f, g, k⟩ := m
  have ne : E ≠ d := fun z => by rw [z, b] at nE; cases nE
  have nE' : E ∉ ps := fun z => by
    obtain ⟨p, hp⟩ := List.mem_iff_getElem?.mp z
    rw [k p E hp] at nE
    cases nE
  refine ⟨ps.map V.ref, e _ _ b, by rw [List.length_map, c], a, ps ++ [E], by rw [upd_same, List.map_append]; rfl, by rw [List.length_append, c]; rfl, ?_, ?_, ?_, ?_⟩
  · rw [List.nodup_append]
    exact ⟨h, by simp, fun x hx y hy e => by
      cases List.mem_singleton.mp hy
      exact nE' (e ▸ hx)⟩
  · intro z
    rcases List.mem_append.mp z with z | z
    · exact f z
    · exact ne (List.mem_singleton.mp z).symm
  · intro r hr
    rcases List.mem_append.mp hr with z | z
    · exact g r z
    · cases List.mem_singleton.mp z
      exact fE
  · intro p r hp
    by_cases q : p < ps.length
    · rw [List.getElem?_append_left q] at hp
      rw [upd_ne (fun e : r = d => f (e ▸ List.mem_of_getElem? hp))]
      exact e _ _ (k p r hp)
    · have hl := (List.getElem?_eq_some_iff.mp hp).1
      rw [List.length_append, List.length_singleton] at hl
      have e : p = i := by omega
      subst e
      rw [List.getElem?_append_right (by omega), c, Nat.sub_self] at hp
      cases hp
      rw [upd_ne ne]
      exact hE
theorem bl_get {fin : List Bool} {i : Nat} (h : i < fin.length) : (fin.map V.bl)[i]? = some (.bl (fin.getD i false)) := by
  rw [List.getElem?_map, List.getElem?_eq_getElem h, List.getD_eq_getElem?_getD, List.getElem?_eq_getElem h]
  rfl
theorem int_get {l : List Nat} {i : Nat} (h : i < l.length) : (l.map fun n => V.int (n : Nat))[i]? = some (.int (l.getD i 0 : Nat)) := by
  rw [List.getElem?_map, List.getElem?_eq_getElem h, List.getD_eq_getElem?_getD, List.getElem?_eq_getElem h]
  rfl
theorem row_get {rows : List (List Nat)} {i : Nat} (h : i < rows.length) : rows[i]? = some (rows.getD i []) := by
  rw [List.getD_eq_getElem?_getD, List.getElem?_eq_getElem h]
  rfl
theorem range_set {n q : Nat} {f : Nat → V} {v : V} : ((List.range n).map f).set q v = (List.range n).map fun y => if y = q then v else f y := by
  refine List.ext_getElem (by simp) fun i h1 h2 => ?_
  rw [List.getElem_set]
  simp only [List.getElem_map, List.getElem_range]
  by_cases e : q = i
  · rw [if_pos e, if_pos e.symm]
  · rw [if_neg e, if_neg (fun z => e z.symm)]
theorem MatAt.get {H0 H : Hp} {d : Addr} {n : Nat} {A : Nat → Nat → Bool} (m : MatAt H0 H d n A) {p : Nat} (hp : p < n) : ∃ (xs : List V) (r : Addr), H d = some (.lst xs) ∧ xs.length = n ∧ xs[p]? = some (.ref r) ∧ H r = some (.lst ((List.range n).map fun q => V.bl (A p q))) ∧ H0 r = none ∧
    ∀ q, q < n → ∃ B, (∀ x y, B x y = (A x y || (decide (x = p) && decide (y = q)))) ∧ MatAt H0 (upd H r (.lst (((List.range n).map fun q => V.bl (A p q)).set q (.bl true)))) d n B := by
  obtain ⟨a, ps, b, c, h, f, g, k⟩ := m
  have hr : ps[p]? = some ps[p] := List.getElem?_eq_getElem (by omega)
  have hm := List.mem_of_getElem? hr
  refine ⟨ps.map V.ref, ps[p], b, by rw [List.length_map, c], by rw [List.getElem?_map, hr]; rfl, k p _ hr, g _ hm, fun q hq => ⟨_, fun x y => rfl, a, ps, ?_, c, h, f, g, fun x r hx => ?_⟩⟩
  · rw [upd_ne (fun e : d = ps[p] => f (by rw [e]; exact hm))]
    exact b
  · have hxl := (List.getElem?_eq_some_iff.mp hx).1
    by_cases e : x = p
    · subst e
      rw [hr] at hx
      cases hx
      rw [upd_same, range_set]
      congr 2
      refine List.map_congr_left fun y hy => ?_
      by_cases e2 : y = q
      · subst e2
        simp
      · rw [if_neg e2]
        simp [e2]
    · have ne : r ≠ ps[p] := fun z => by
        subst z
        rw [List.getElem?_eq_getElem hxl] at hx
        have h1 := h.idxOf_getElem x hxl
        rw [Option.some.inj hx, h.idxOf_getElem p (by omega)] at h1
        exact e h1.symm
      rw [upd_ne ne]
      rw [k x r hx]
      congr 2
      refine List.map_congr_left fun y hy => ?_
      simp [e]
theorem MatAt.same {H0 H H' : Hp} {d : Addr} {n : Nat} {A : Nat → Nat → Bool} (m : MatAt H0 H d n A) (e : Same H H') : MatAt H0 H' d n A := MatP.same (i := n) m e
theorem mat_get {n p q : Nat} {A : Nat → Nat → Bool} (h : q < n) : ((List.range n).map fun q => V.bl (A p q))[q]? = some (.bl (A p q)) := by
  rw [List.getElem?_map, List.getElem?_range h]
  rfl
/-- in a round -/
structure Step (rows : List (List Nat)) (fin : List Bool) (A B : Nat → Nat → Bool) (ch : Bool) (done : Nat → Nat → Prop) : Prop where
  fair : Fair rows fin B
  up : ∀ x y, A x y = true → B x y = true
  dn : ch = false → ∀ x y, B x y = true → A x y = true
  hit : ∀ x, x < rows.length → ∀ y, y < rows.length → done x y → B x y = false → ∀ k, k < 5 → A (mv rows x k) (mv rows y k) = false
theorem Step.init {rows : List (List Nat)} {fin : List Bool} {A : Nat → Nat → Bool} (h : Fair rows fin A) : Step rows fin A A false (fun x _ => x < 0) := ⟨h, fun _ _ e => e, fun _ _ _ e => e, fun _ _ _ _ z => absurd z (Nat.not_lt_zero _)⟩
theorem Step.more {rows : List (List Nat)} {fin : List Bool} {A B : Nat → Nat → Bool} {ch : Bool} {d e : Nat → Nat → Prop} (h : Step rows fin A B ch d) (f : ∀ x, x < rows.length → ∀ y, y < rows.length → e x y → d x y) : Step rows fin A B ch e := ⟨h.fair, h.up, h.dn, fun x hx y hy z => h.hit x hx y hy (f x hx y hy z)⟩
theorem not_up {A B : Nat → Nat → Bool} (h : ∀ x y, A x y = true → B x y = true) {x y : Nat} (e : B x y = false) : A x y = false := by
  cases q : A x y with
  | false => rfl
  | true => rw [h x y q] at e; cases e
theorem Step.skip {rows : List (List Nat)} {fin : List Bool} {A B : Nat → Nat → Bool} {ch : Bool} {d : Nat → Nat → Prop} (h : Step rows fin A B ch d) {p q : Nat} (g : B p q = true ∨ ∀ k, k < 5 → B (mv rows p k) (mv rows q k) = false) : Step rows fin A B ch (fun x y => d x y ∨ (x = p ∧ y = q)) := by
  refine ⟨h.fair, h.up, h.dn, fun x hx y hy z e k hk => ?_⟩
  rcases z with z | ⟨rfl, rfl⟩
  · exact h.hit x hx y hy z e k hk
  · rcases g with g | g
    · rw [g] at e; cases e
    · exact not_up h.up (g k hk)
theorem Step.put {rows : List (List Nat)} {fin : List Bool} {A B C : Nat → Nat → Bool} {ch : Bool} {d : Nat → Nat → Prop} (five : Five rows) (h : Step rows fin A B ch d) {p q k : Nat} (hp : p < rows.length) (hq : q < rows.length) (hk : k < 5) (g : B (mv rows p k) (mv rows q k) = true)
    (hC : ∀ x y, C x y = (B x y || (decide (x = p) && decide (y = q)) || (decide (x = q) && decide (y = p)))) : Step rows fin A C true (fun x y => d x y ∨ (x = p ∧ y = q)) := by
  have up : ∀ x y, B x y = true → C x y = true := fun x y e => by rw [hC, e]; rfl
  refine ⟨h.fair.put five hp hq hk g fun x y e => ?_, fun x y e => up x y (h.up x y e), (fun z => by cases z), fun x hx y hy z e j hj => ?_⟩
  · rw [hC] at e
    simpa [or_assoc] using e
  · rcases z with z | ⟨rfl, rfl⟩
    · exact h.hit x hx y hy z (not_up up e) j hj
    · rw [hC] at e
      simp at e
def sp_apart (K : PySem.W.Frag) : Sp := fun vs H Q _ => ∃ (a f : Addr) (rows : List (List Nat)) (fin : List Bool), vs = [.ref a, .ref f] ∧ LsAt K H a rows ∧ Five rows ∧ rows.length ≤ 100 ∧ SqL K H f (fin.map V.bl) ∧ fin.length = rows.length ∧
  ∀ H' d A, Same H H' → MatAt H H' d rows.length A → Told rows fin A → Q (.ref d) H'
theorem G__law_apart (T : Txt K mg w) : FnOk P w K mg base CX0 1 T.f__law_apart T.fd__law_apart ["rows", "finals"] (sp_apart K) := by
  refine T.F__law_apart.ok sc__law_apart (fun vs H Q E h => ?_) (fun cdv A outer s H vs Q E hr h => ?_)
  · obtain ⟨a, f, rows, fin, rfl, _⟩ := h
    rfl
  · obtain ⟨a, f, rows, fin, rfl, hR, five, hn, hF, hfl, q⟩ := h
    refine ⟨_, ((pss_cons (ps_set (i := 2) sc__law_apart.nd rfl (Or.inr rfl) (pe_callB Gx.cr_lenQ (by rfl) T.z_len bt_len (pa_cons (pv 0) pa_nil)))
  (pss_cons (ps_set (i := 3) sc__law_apart.nd rfl (Or.inr rfl) (pe_lc (own := [("p", 5)]) (g := (gName 5)) (tt := tYes) (by rfl) sc__law_apart.nd (pi_range1 rfl T.z_range (pa_cons (pv 2) pa_nil)) (blkOk_by (N := ["rows", "finals", "many", "apart", "q", "p", "turn", "changed", "hits", "k"]) (sc := defScope s__law_apart) (by decide +kernel)) (fun _ _ _ _ _ => (pg_name (i := 5) sc__law_apart.nd rfl (Or.inr rfl))) (fun _ _ _ _ _ => pts_nil) (fun _ _ _ _ _ => (pe_lc (own := [("q", 4)]) (g := (gName 4)) (tt := tYes) (by rfl) sc__law_apart.nd (pi_range1 rfl T.z_range (pa_cons (pv 2) pa_nil)) (blkOk_by (N := ["rows", "finals", "many", "apart", "q", "p", "turn", "changed", "hits", "k"]) (by kernel_rfl)) (fun _ _ _ _ _ => (pg_name (i := 4) sc__law_apart.nd rfl (Or.inl rfl))) (fun _ _ _ _ _ => pts_nil) (fun _ _ _ _ _ => (pe_cmpR op_ne (pe_ix (r := rIxL K) ix_list (pv 1) (pv 5) (fun _ _ => rfl)) (pe_ix (r := rIxL K) ix_list (pv 1) (pv 4) (fun _ _ => rfl)) (nomark _)))))))
  (C8.pss_cut (ps_for PassesOwn.never rfl (pi_range1 rfl T.z_range (pa_cons (pv 2) pa_nil)) (pg_name (i := 6) sc__law_apart.nd rfl (Or.inl rfl))
  (pss_cons (ps_set (i := 7) sc__law_apart.nd rfl (Or.inl rfl) pe_bl)
  (pss_cons (ps_for PassesOwn.never rfl (pi_range1 rfl T.z_range (pa_cons (pv 2) pa_nil)) (pg_name (i := 5) sc__law_apart.nd rfl (Or.inr rfl))
  (pss_one (ps_for PassesOwn.never rfl (pi_range1 rfl T.z_range (pa_cons (pv 2) pa_nil)) (pg_name (i := 4) sc__law_apart.nd rfl (Or.inr rfl))
  (pss_one (ps_if (pt_not (pt_val (pe_ix ix_list (pe_ix ix_list (pv 3) (pv 5) (fun _ _ => rfl)) (pv 4) (fun _ _ => rfl))))
  (pss_cons (ps_setLc (i := 8) (own := [("k", 9)]) (g := (gName 9))  rfl sc__law_apart.nd rfl rfl (sw_true rfl rfl rfl (by decide +kernel)) (pi_range1 rfl T.z_range (pa_cons pe_int pa_nil)) (blkOk_by (N := ["rows", "finals", "many", "apart", "q", "p", "turn", "changed", "hits", "k"]) (sc := defScope s__law_apart) (by decide +kernel)) (fun _ _ _ _ _ => (pg_name (i := 9) sc__law_apart.nd rfl (Or.inl rfl))) (fun _ _ _ _ _ => (pts_one (pt_val (pe_ix (r := rIxL K) ix_list (pe_ix (r := rIxL K) ix_list (pv 3) (pe_ix (r := rIxL K) ix_list (pe_ix (r := rIxL K) ix_list (pv 0) (pv 5) (fun _ _ => rfl)) (pv 9) (fun _ _ => rfl)) (fun _ _ => rfl)) (pe_ix (r := rIxL K) ix_list (pe_ix (r := rIxL K) ix_list (pv 0) (pv 4) (fun _ _ => rfl)) (pv 9) (fun _ _ => rfl)) (fun _ _ => rfl))))) (fun _ _ _ _ _ => (pv 9)))
  (pss_one (ps_if (pt_cmpR op_gt (pe_callB Gx.cr_lenQ (by rfl) T.z_len bt_len (pa_cons (pv 8) pa_nil)) pe_int (nomark _))
  (pss_cons (ps_asg pe_bl (pg_sub (pe_ix ix_list (pv 3) (pv 5) (fun _ _ => rfl)) (pv 4) set_list))
  (pss_cons (ps_asg pe_bl (pg_sub (pe_ix ix_list (pv 3) (pv 4) (fun _ _ => rfl)) (pv 5) set_list))
  (pss_one (ps_set (i := 7) sc__law_apart.nd rfl (Or.inl rfl) pe_bl))))
  pss_nil)))
  pss_nil)))))
  (pss_one (ps_if (pt_not (pt_val (pv 7)))
  (pss_one ps_break)
  pss_nil)))))
  (pss_one (ps_ret (pv 3))))))), ?_⟩
    rw [st__law_apart]
    try dsimp only [cxOf]
    obtain ⟨vs, hS, hl, hrow⟩ := id hR
    walk_at "g"
    rw [hl]
    refine ⟨_, rfl, by omega, by omega, fun D nD => lc_range (lo := 0) (n := (((rows.length : Nat) : Int)).toNat) (fun i H' => Same H H' ∧ MatP H H' D i rows.length (fun p q => fin.getD p false != fin.getD q false)) ⟨Gx.Same.put (Same.refl H) nD, nD, [], upd_same, rfl, List.nodup_nil, by simp, by simp, fun p r z => by cases z⟩ ?_ ?_⟩
    · rintro i H1 hi ⟨s1, m1⟩
      walk_at "g"
      refine ⟨rfl, ?_⟩
      walk_at "g"
      refine ⟨_, rfl, by omega, by omega, fun E nE => lc_range (lo := 0) (n := (((rows.length : Nat) : Int)).toNat) (fun j H' => Same H1 H' ∧ H' E = some (.lst ((List.range j).map fun q => V.bl (fin.getD i false != fin.getD q false)))) ⟨Gx.Same.put (Same.refl H1) nE, upd_same⟩ ?_ ?_⟩
      · rintro j H2 hj ⟨s2, e2⟩
        have hF2 := (s1.trans s2).seq hF
        walk_at "g"
        refine ⟨rfl, ?_⟩
        walk_at "g"
        refine Gx.ixL hF2 (Gx.atI_of (k := i) (by omega) (bl_get (by omega))) ?_
        walk_at "g"
        refine Gx.ixL hF2 (Gx.atI_of (k := j) (by omega) (bl_get (by omega))) ?_
        walk_at "g"
        refine ⟨_, e2, Gx.lineL (by simp; omega), Gx.Same.put s2 nE, ?_⟩
        rw [upd_same, List.range_succ, List.map_append]
        rfl
      · rintro H2 ⟨s2, e2⟩
        obtain ⟨acc, h1, h2, h3⟩ := m1.snoc s2 nE e2 (s1.free nE)
        exact ⟨acc, h1, Gx.lineL (by omega), Gx.Same.put (s1.trans s2) nD, h3⟩
    · rintro H1 ⟨s1, m1⟩
      walk_at "g"
      refine ⟨fun σ H' => ∃ (A : Nat → Nat → Bool) (y1 y2 y3 y4 y5 y6 : Option V), Same H H' ∧ MatAt H H' D rows.length A ∧ Told rows fin A ∧ σ = [some (.ref a), some (.ref f), some (.int rows.length), some (.ref D), y1, y2, y3, y4, y5, y6], ?_, ?_⟩
      · walk_at "g"
        refine ⟨_, rfl, by omega, by omega, for_range (lo := 0) (n := (((rows.length : Nat) : Int)).toNat) (fun i σ H' => ∃ (A : Nat → Nat → Bool) (y1 y2 y3 y4 y5 y6 : Option V), Same H H' ∧ MatAt H H' D rows.length A ∧ Round rows fin i A ∧ σ = [some (.ref a), some (.ref f), some (.int rows.length), some (.ref D), y1, y2, y3, y4, y5, y6])
          ⟨_, none, none, none, none, none, none, s1, m1, Round.init fun p _ q _ => rfl, rfl⟩ ?_ ?_⟩
        · rintro i σ H2 hi ⟨A, y1, y2, y3, y4, y5, y6, s2, m2, rd, rfl⟩
          walk_at "g"
          refine ⟨_, rfl, by omega, by omega, for_range (lo := 0) (n := (((rows.length : Nat) : Int)).toNat) (fun p σ H' => ∃ (B : Nat → Nat → Bool) (ch : Bool) (y1 y2 y5 y6 : Option V), Same H H' ∧ MatAt H H' D rows.length B ∧ Step rows fin A B ch (fun x _ => x < p) ∧ σ = [some (.ref a), some (.ref f), some (.int rows.length), some (.ref D), y1, y2, some (.int (0 + i)), some (.bl ch), y5, y6])
            ⟨A, false, y1, y2, y5, y6, s2, m2, Step.init rd.1, rfl⟩ ?_ ?_⟩
          · rintro p σ H3 hp ⟨B, ch, y1, y2, y5, y6, s3, m3, st3, rfl⟩
            walk_at "g"
            refine ⟨_, rfl, by omega, by omega, for_range (lo := 0) (n := (((rows.length : Nat) : Int)).toNat) (fun q σ H' => ∃ (B : Nat → Nat → Bool) (ch : Bool) (y1 y5 y6 : Option V), Same H H' ∧ MatAt H H' D rows.length B ∧ Step rows fin A B ch (fun x y => x < p ∨ (x = p ∧ y < q)) ∧ σ = [some (.ref a), some (.ref f), some (.int rows.length), some (.ref D), y1, some (.int (0 + p)), some (.int (0 + i)), some (.bl ch), y5, y6])
              ⟨B, ch, y1, y5, y6, s3, m3, st3.more (fun x _ y _ z => z.elim id fun z => absurd z.2 (Nat.not_lt_zero _)), rfl⟩ ?_ ?_⟩
            · rintro q σ H4 hq ⟨B, ch, y1, y5, y6, s4, m4, st4, rfl⟩
              have hp' : p < rows.length := by omega
              have hq' : q < rows.length := by omega
              obtain ⟨xs, rp, d4, xl, xp, rp4, fp, put4⟩ := m4.get hp'
              have hrd : (some rp : Option Addr).isSome := rfl
              walk_at "g"
              refine Gx.ixL (SqL.of d4) (Gx.atI_of (k := p) (by omega) xp) ?_
              walk_at "g"
              refine Gx.ixL (SqL.of rp4) (Gx.atI_of (k := q) (by omega) (mat_get hq')) ?_
              cases hb : B p q with
              | true =>
                walk_at "g"
                exact ⟨B, ch, _, _, _, s4, m4, (st4.skip (.inl hb)).more fun x _ y _ z => by omega, rfl⟩
              | false =>
                walk_at "g"
                refine ⟨_, rfl, by omega, by omega, fun E nE => lc_range (lo := 0) (n := (5 : Int).toNat) (fun k H' => Same H4 H' ∧ ∃ hs : List V, H' E = some (.lst hs) ∧ hs.length ≤ k ∧ (hs = [] → ∀ j, j < k → B (mv rows p j) (mv rows q j) = false) ∧ (hs ≠ [] → ∃ j, j < 5 ∧ B (mv rows p j) (mv rows q j) = true))
                  ⟨Gx.Same.put (Same.refl H4) nE, [], upd_same, Nat.le_refl _, fun _ j hj => absurd hj (Nat.not_lt_zero _), fun z => absurd rfl z⟩ ?_ ?_⟩
                · rintro k H5 hk ⟨s5, hs, e5, l5, z1, z2⟩
                  have hk' : k < 5 := hk
                  have sH5 := s4.trans s5
                  have hS5 := sH5.seq hS
                  obtain ⟨r1, v1, q1⟩ := hrow p _ (row_get hp')
                  obtain ⟨r2, v2, q2⟩ := hrow q _ (row_get hq')
                  have q1 := sH5.seq q1
                  have q2 := sH5.seq q2
                  have g1 : ((rows.getD p []).map fun n => V.int (n : Nat))[k]? = some (.int (mv rows p k : Nat)) := int_get (by rw [(five.2 p hp').1]; exact hk')
                  have g2 : ((rows.getD q []).map fun n => V.int (n : Nat))[k]? = some (.int (mv rows q k : Nat)) := int_get (by rw [(five.2 q hq').1]; exact hk')
                  obtain ⟨ys, rm, d5, yl, yp, rm5, _, _⟩ := (m4.same s5).get (five.mv_lt hp' hk')
                  walk_at "g"
                  refine ⟨rfl, ?_⟩
                  walk_at "g"
                  refine Gx.ixL hS5 (Gx.atI_of (k := p) (by omega) v1) ?_
                  walk_at "g"
                  refine Gx.ixL q1 (Gx.atI_of (k := k) (by omega) g1) ?_
                  walk_at "g"
                  refine Gx.ixL (SqL.of d5) (Gx.atI_of (k := mv rows p k) rfl yp) ?_
                  walk_at "g"
                  refine Gx.ixL hS5 (Gx.atI_of (k := q) (by omega) v2) ?_
                  walk_at "g"
                  refine Gx.ixL q2 (Gx.atI_of (k := k) (by omega) g2) ?_
                  walk_at "g"
                  refine Gx.ixL (SqL.of rm5) (Gx.atI_of (k := mv rows q k) rfl (mat_get (five.mv_lt hq' hk'))) ?_
                  cases hh : B (mv rows p k) (mv rows q k) with
                  | true =>
                    walk_at "g"
                    exact ⟨hs, e5, Gx.lineL (by omega), Gx.Same.put s5 nE, _, upd_same, by rw [List.length_append]; show _ + 1 ≤ _; omega, fun z => absurd z (by simp), fun _ => ⟨k, hk', hh⟩⟩
                  | false =>
                    walk_at "g"
                    refine ⟨s5, hs, e5, by omega, fun z j hj => ?_, z2⟩
                    by_cases e : j = k
                    · subst e
                      exact hh
                    · exact z1 z j (by omega)
                · rintro H5 ⟨s5, hs, e5, l5, z1, z2⟩
                  have m5 := m4.same s5
                  have sH5 := s4.trans s5
                  walk_at "g"
                  refine Gx.lenL (SqL.of e5) ?_
                  walk_at "g"
                  refine Gx.iteD (fun c => ?_) (fun c => ?_)
                  · obtain ⟨k, hk, hh⟩ := z2 (fun z => by rw [z] at c; simp at c)
                    obtain ⟨xs5, rp5, d5, xl5, xp5, rpe5, fp5, put5⟩ := m5.get hp'
                    obtain ⟨B1, hB1, m6⟩ := put5 q hq'
                    have s6 : Same H (upd H5 rp5 (.lst (((List.range rows.length).map fun y => V.bl (B p y)).set q (.bl true)))) := Gx.Same.put sH5 fp5
                    walk_at "g"
                    refine Gx.ixL (SqL.of d5) (Gx.atI_of (k := p) (by omega) xp5) ?_
                    walk_at "g"
                    refine Gx.setL (j := q) rpe5 (by omega) (by simp; omega) ?_
                    generalize upd H5 rp5 (.lst (((List.range rows.length).map fun y => V.bl (B p y)).set q (.bl true))) = H6 at m6 s6 ⊢
                    obtain ⟨xs6, rq6, d6, xl6, xq6, rqe6, fq6, put6⟩ := m6.get hq'
                    obtain ⟨B2, hB2, m7⟩ := put6 p hp'
                    have s7 : Same H (upd H6 rq6 (.lst (((List.range rows.length).map fun y => V.bl (B1 q y)).set p (.bl true)))) := Gx.Same.put s6 fq6
                    walk_at "g"
                    refine Gx.ixL (SqL.of d6) (Gx.atI_of (k := q) (by omega) xq6) ?_
                    walk_at "g"
                    refine Gx.setL (j := p) rqe6 (by omega) (by simp; omega) ?_
                    generalize upd H6 rq6 (.lst (((List.range rows.length).map fun y => V.bl (B1 q y)).set p (.bl true))) = H7 at m7 s7 ⊢
                    walk_at "g"
                    exact ⟨B2, true, _, _, _, s7, m7, (st4.put five hp' hq' hk hh fun x y => by rw [hB2, hB1]).more fun x _ y _ z => by omega, rfl⟩
                  · have hz : hs = [] := by
                      cases hs with
                      | nil => rfl
                      | cons x l => simp at c
                    walk_at "g"
                    exact ⟨B, ch, _, _, _, sH5, m5, (st4.skip (.inr (z1 hz))).more fun x _ y _ z => by omega, rfl⟩
            · rintro σ H4 ⟨B, ch, y1, y5, y6, s4, m4, st4, rfl⟩
              refine ⟨B, ch, _, _, _, _, s4, m4, st4.more (fun x _ y hy z => ?_), rfl⟩
              omega
          · rintro σ H3 ⟨B, ch, y1, y2, y5, y6, s3, m3, st3, rfl⟩
            have full := st3.more (e := fun x y => x < rows.length ∧ y < rows.length) (fun x hx y hy z => by omega)
            have hgo := rd.go five full.fair (fun x hx y hy e => not_up full.up e) (fun x hx y hy k hk e => full.hit x hx y hy ⟨hx, hy⟩ e k hk)
            walk_at "g"
            cases ch with
            | true =>
              walk_at "g"
              exact ⟨B, _, _, _, _, _, _, s3, m3, hgo, rfl⟩
            | false =>
              walk_at "g"
              refine ⟨B, _, _, _, _, _, _, s3, m3, hgo.stop fun x hx y hy e k hk => ?_, rfl⟩
              have h1 := full.hit x hx y hy ⟨hx, hy⟩ e k hk
              cases h2 : B (mv rows x k) (mv rows y k) with
              | false => rfl
              | true => rw [full.dn rfl _ _ h2] at h1; cases h1
        · rintro σ H2 ⟨A, y1, y2, y3, y4, y5, y6, s2, m2, rd, rfl⟩
          exact ⟨A, _, _, _, _, _, _, s2, m2, Round.full five (by simpa using rd), rfl⟩
      · rintro σ H2 ⟨A, y1, y2, y3, y4, y5, y6, s2, m2, told, rfl⟩
        walk_at "g"
        exact q H2 D A s2 m2 told
end
end K15
namespace K15
open PySem PySem.Spec PyProof.Rows L2
local macro_rules | `(tactic| walk_at "con") => `(tactic| first | with_reducible refine Gx.conE K15.ks0 ?_ | with_reducible refine Gx.conE K15.ks1 ?_ | with_reducible refine Gx.conE K15.ks2 ?_ | with_reducible refine Gx.conE K15.ks3 ?_ | with_reducible refine Gx.conE K15.ks4 ?_ | with_reducible refine Gx.conE K15.ks5 ?_ | with_reducible refine Gx.conE K15.ks6 ?_ | with_reducible refine Gx.conE K15.ks7 ?_ | with_reducible refine Gx.conE K15.ks8 ?_ | with_reducible refine Gx.conE K15.ks9 ?_ | with_reducible refine Gx.conE K15.ks10 ?_ | with_reducible refine Gx.conE K15.ks11 ?_ | with_reducible refine Gx.conE K15.ks12 ?_ | with_reducible refine Gx.conE K15.ks13 ?_ | with_reducible refine Gx.conE K15.ks14 ?_ | with_reducible refine Gx.conE K15.ks15 ?_)
section
variable {P : Program} {w : World} {K : PySem.W.Frag} {mg : Str → Option Value} {base : Heap}
/-- the least machine as the law reckons it -/
def LawLeast (rows : List (List Nat)) (fin : List Bool) (R : List (List Nat)) (F : List Bool) : Prop := ∃ A o, Told rows fin A ∧ LeastOf (joinR rows A) fin o (fun x => x) o ∧ R = lRows (joinR rows A) (fun x => x) o ∧ F = lFins fin o
def sp_lleast (K : PySem.W.Frag) : Sp := fun vs H Q _ => ∃ (a f : Addr) (rows : List (List Nat)) (fin : List Bool), vs = [.ref a, .ref f] ∧ LsAt K H a rows ∧ Five rows ∧ rows.length ≤ 100 ∧ SqL K H f (fin.map V.bl) ∧ fin.length = rows.length ∧
  ∀ H' u x y R F, Same H H' → H' u = some (.tup [x, y]) → Dp K H' x (rowsD R) → Dp K H' y (finsD F) → LawLeast rows fin R F → Q (.ref u) H'
theorem bfs_ge {rows : List (List Nat)} {mk : Nat → Nat} {s0 n : Nat} {pk : List Nat} (b : Bfs rows mk s0 n pk) : n ≤ pk.length := by
  cases b with
  | start => exact Nat.zero_le _
  | @step at_ pk s b e =>
    have h1 := (List.getElem?_eq_some_iff.mp e).1
    have : ∀ (l pk : List Nat), pk.length ≤ (l.foldl (pick1 mk) pk).length := by
      intro l
      induction l with
      | nil => intro pk; exact Nat.le_refl _
      | cons x l ih =>
        intro pk
        obtain ⟨z, hz⟩ := pick1_pre mk pk x
        have := ih (pick1 mk pk x)
        rw [List.foldl_cons]
        rw [hz] at this ⊢
        rw [List.length_append] at this
        omega
    have := this (rows.getD s []) pk
    omega
theorem pick_id (o : List Nat) (t : Nat) : pick1 (fun x => x) o t = if t ∈ o then o else o ++ [t] := by
  unfold pick1
  rw [List.map_id']
theorem inV_ints (o : List Nat) (t : Nat) : inV (.int (t : Nat)) (o.map fun n => V.int (n : Nat)) = decide (t ∈ o) := by
  unfold inV
  induction o with
  | nil => simp
  | cons x o ih =>
    rw [List.map_cons, List.any_cons, ih]
    show (((x : Int) == (t : Int)) || _) = _
    by_cases e : x = t
    · subst e
      simp
    · have : ((x : Int) == (t : Int)) = false := by simp; omega
      rw [this]
      simp [Ne.symm e]
theorem flat_ints (o : List Nat) : (o.map fun n => V.int (n : Nat)).all flatV = true := by
  induction o with
  | nil => rfl
  | cons x o ih => rw [List.map_cons, List.all_cons, ih]; rfl
theorem lt_idx {t : Nat} : ∀ (o : List Nat) (j : Nat), j < o.idxOf t → o[j]? ≠ some t
  | [], j, _, e => by cases e
  | x :: o, j, h, e => by
    rw [List.idxOf_cons] at h
    by_cases c : x = t
    · rw [beq_iff_eq.mpr c] at h
      exact absurd h (Nat.not_lt_zero _)
    · rw [beq_eq_false_iff_ne.mpr c] at h
      cases j with
      | zero => exact c (Option.some.inj e)
      | succ j => exact lt_idx o j (Nat.lt_of_succ_lt_succ h) (by simpa using e)
/-- x in order, not in order, order.index(x): numbers -/
theorem notInI {H : Hp} {Q : VK} {p : Addr} {o : List Nat} {t : Nat} (h : SqL K H p (o.map fun n => V.int (n : Nat))) (q : Q (.bl (!decide (t ∈ o))) H) : rIn K true (.int (t : Nat)) (.ref p) H Q := ⟨p, _, rfl, .inl h, rfl, flat_ints o, by rw [inV_ints]; exact q⟩
theorem indexI {H : Hp} {Q : VK} {p : Addr} {o : List Nat} {t : Nat} (h : SqL K H p (o.map fun n => V.int (n : Nat))) (m : t ∈ o) (q : Q (.int (o.idxOf t : Nat)) H) : rIndex K (.ref p) [.int (t : Nat)] H Q := by
  have hl := List.idxOf_lt_length_of_mem m
  refine ⟨p, _, _, o.idxOf t, .int (t : Nat), rfl, rfl, h, rfl, flat_ints o, ?_, by show ((t : Int) == (t : Int)) = true; simp, fun j z hj hz => ?_, q⟩
  · rw [List.getElem?_map, List.getElem?_eq_getElem hl, List.getElem_idxOf]
    rfl
  · rw [List.getElem?_map, List.getElem?_eq_getElem (by omega)] at hz
    obtain rfl := Option.some.inj hz
    show (((o[j] : Nat) : Int) == (t : Int)) = false
    have : o[j] ≠ t := fun e => lt_idx o j hj (by rw [List.getElem?_eq_getElem (by omega), e])
    simp
    omega
theorem newRow_id (o row : List Nat) : newRow (fun x => x) o row = row.map fun t => o.idxOf t := by
  unfold newRow
  rw [List.map_id']
theorem noL_row (r : List Nat) : Gx.noL (rowD r) = true := by
  have := noLs_rows [r]
  rw [List.map_singleton, Gx.noLs, Gx.noLs, Bool.and_true] at this
  exact this
theorem dpAll_nats {H : Hp} (l : List Nat) : DpAll K H (l.map fun n => V.int (n : Nat)) (l.map fun n => PyData.int (n : Nat)) := by
  have := Gx.dpAll_ints (K := K) (H := H) (l.map fun n : Nat => (n : Int))
  rw [List.map_map, List.map_map] at this
  exact this
theorem dpAll_bools {H : Hp} (l : List Bool) : DpAll K H (l.map V.bl) (l.map PyData.bool) := by
  induction l with
  | nil => exact .nil
  | cons x l ih => exact .cons (.bl _) ih
structure Ord (rows : List (List Nat)) (A : Nat → Nat → Bool) (k : Nat) (o : List Nat) : Prop where
  bfs : Bfs (joinR rows A) (fun x => x) 0 k o
  fx : ∀ s ∈ o, s < rows.length ∧ hd rows.length A s = s
  nd : o.Nodup
  h0 : o[0]? = some 0
  cl : ∀ s ∈ o.take k, ∀ t ∈ (joinR rows A).getD s [], t ∈ o
theorem Ord.least {rows : List (List Nat)} {fin : List Bool} {A : Nat → Nat → Bool} {o : List Nat} (five : Five rows) (told : Told rows fin A) (h : Ord rows A o.length o) : LeastOf (joinR rows A) fin o (fun x => x) o := by
  have cl := h.cl
  rw [List.take_length] at cl
  exact told.least five h.bfs h.fx h.nd h.h0 cl
theorem G__law_least (T : Txt K mg w) : FnOk P w K mg base CX0 2 T.f__law_least T.fd__law_least ["rows", "finals"] (sp_lleast K) := by
  have G__law_apart := G__law_apart (P := P) (w := w) (base := base) T
  refine T.F__law_least.ok sc__law_least (fun vs H Q E h => ?_) (fun cdv A outer s H vs Q E hr h => ?_)
  · obtain ⟨a, f, rows, fin, rfl, _⟩ := h
    rfl
  · obtain ⟨a, f, rows, fin, rfl, hR, five, hn, hF, hfl, q⟩ := h
    refine ⟨_, ((pss_cons (ps_set (i := 2) sc__law_least.nd rfl (Or.inr rfl) (pe_call G__law_apart (hr.mono (by first | decide | omega)) (by rfl) T.g__law_apart T.F__law_apart.kp T.b__law_apart .nil pass0 (pa_cons (pv 0) (pa_cons (pv 1) pa_nil))))
  (pss_cons (ps_set (i := 3) sc__law_least.nd rfl (Or.inr rfl) (pe_lc (own := [("p", 5)]) (g := (gName 5)) (tt := tYes) (by rfl) sc__law_least.nd (pi_range1 rfl T.z_range (pa_cons (pe_callB Gx.cr_lenQ (by rfl) T.z_len bt_len (pa_cons (pv 0) pa_nil)) pa_nil)) (blkOk_by (N := ["rows", "finals", "apart", "heads", "q", "p", "joined", "target", "row", "order", "k", "due_rows", "state"]) (sc := defScope s__law_least) (by decide +kernel)) (fun _ _ _ _ _ => (pg_name (i := 5) sc__law_least.nd rfl (Or.inr rfl))) (fun _ _ _ _ _ => pts_nil) (fun _ _ _ _ _ => (pe_ix (r := rIxL K) ix_list (pe_lc (own := [("q", 4)]) (g := (gName 4))  (by rfl) sc__law_least.nd (pi_range1 rfl T.z_range (pa_cons (pe_callB (r := Gx.rLenQ K) Gx.cr_lenQ (by rfl) T.z_len bt_len (pa_cons (pv 0) pa_nil)) pa_nil)) (blkOk_by (N := ["rows", "finals", "apart", "heads", "q", "p", "joined", "target", "row", "order", "k", "due_rows", "state"]) (by kernel_rfl)) (fun _ _ _ _ _ => (pg_name (i := 4) sc__law_least.nd rfl (Or.inl rfl))) (fun _ _ _ _ _ => (pts_one (pt_not (pt_val (pe_ix (r := rIxL K) ix_list (pe_ix (r := rIxL K) ix_list (pv 2) (pv 5) (fun _ _ => rfl)) (pv 4) (fun _ _ => rfl)))))) (fun _ _ _ _ _ => (pv 4))) pe_int (fun _ _ => rfl)))))
  (pss_cons (ps_set (i := 6) sc__law_least.nd rfl (Or.inr rfl) (pe_lc (own := [("row", 8)]) (g := (gName 8)) (tt := tYes) (by rfl) sc__law_least.nd (pi_list (pv 0)) (blkOk_by (N := ["rows", "finals", "apart", "heads", "q", "p", "joined", "target", "row", "order", "k", "due_rows", "state"]) (sc := defScope s__law_least) (by decide +kernel)) (fun _ _ _ _ _ => (pg_name (i := 8) sc__law_least.nd rfl (Or.inl rfl))) (fun _ _ _ _ _ => pts_nil) (fun _ _ _ _ _ => (pe_lc (own := [("target", 7)]) (g := (gName 7)) (tt := tYes) (by rfl) sc__law_least.nd (pi_list (pv 8) : PI _ _ _ (iList K _)) (blkOk_by (N := ["rows", "finals", "apart", "heads", "q", "p", "joined", "target", "row", "order", "k", "due_rows", "state"]) (by kernel_rfl)) (fun _ _ _ _ _ => (pg_name (i := 7) sc__law_least.nd rfl (Or.inl rfl))) (fun _ _ _ _ _ => pts_nil) (fun _ _ _ _ _ => (pe_ix (r := rIxL K) ix_list (pv 3) (pv 7) (fun _ _ => rfl)))))))
  (pss_cons (ps_set (i := 9) sc__law_least.nd rfl (Or.inr rfl) (pe_lst (pa_cons (pe_ix ix_list (pv 3) pe_int (fun _ _ => rfl)) pa_nil)))
  (C8.pss_cut (ps_for PassesOwn.never rfl (pi_range1 rfl T.z_range (pa_cons (pe_callB Gx.cr_lenQ (by rfl) T.z_len bt_len (pa_cons (pv 0) pa_nil)) pa_nil)) (pg_name (i := 10) sc__law_least.nd rfl (Or.inl rfl))
  (pss_cons (ps_if (pt_cmpR op_ge (pv 10) (pe_callB Gx.cr_lenQ (by rfl) T.z_len bt_len (pa_cons (pv 9) pa_nil)) (nomark _))
  (pss_one ps_break)
  pss_nil)
  (pss_one (ps_for PassesOwn.never rfl (pi_list (pe_ix ix_list (pv 6) (pe_ix ix_list (pv 9) (pv 10) (fun _ _ => rfl)) (fun _ _ => rfl))) (pg_name (i := 7) sc__law_least.nd rfl (Or.inl rfl))
  (pss_one (ps_if (pt_cmpR op_notIn_seq (pv 7) (pv 9) rfl)
  (pss_one (ps_expr (pe_bm PySem.F.plainAttrs_list PySem.F.slot_list_append PySem.F.type_list_append mt_append (pv 9) (pa_cons (pv 7) pa_nil))))
  pss_nil))))))
  (pss_cons (ps_set (i := 11) sc__law_least.nd rfl (Or.inl rfl) (pe_callTy Gx.cr_tupL (by rfl) T.z_tuple bt_tuple (pa_cons (pe_lc (own := [("state", 12)]) (g := (gName 12)) (tt := tYes) (by rfl) sc__law_least.nd (pi_list (pv 9)) (blkOk_by (N := ["rows", "finals", "apart", "heads", "q", "p", "joined", "target", "row", "order", "k", "due_rows", "state"]) (sc := defScope s__law_least) (by decide +kernel)) (fun _ _ _ _ _ => (pg_name (i := 12) sc__law_least.nd rfl (Or.inl rfl))) (fun _ _ _ _ _ => pts_nil) (fun _ _ _ _ _ => (pe_callTy (r := Gx.rTupL K) Gx.cr_tupL (by rfl) T.z_tuple bt_tuple (pa_cons (pe_lc (own := [("target", 7)]) (g := (gName 7)) (tt := tYes) (by rfl) sc__law_least.nd (pi_list (pe_ix (r := rIxL K) ix_list (pv 6) (pv 12) (fun _ _ => rfl)) : PI _ _ _ (iList K _)) (blkOk_by (N := ["rows", "finals", "apart", "heads", "q", "p", "joined", "target", "row", "order", "k", "due_rows", "state"]) (by kernel_rfl)) (fun _ _ _ _ _ => (pg_name (i := 7) sc__law_least.nd rfl (Or.inl rfl))) (fun _ _ _ _ _ => pts_nil) (fun _ _ _ _ _ => (pe_bm (r := rIndex K) PySem.F.plainAttrs_list PySem.F.slot_list_index PySem.F.type_list_index mt_index (pv 9) (pa_cons (pv 7) pa_nil) : PE _ _ (tBM K _ _ _ _)))) pa_nil)))) pa_nil)))
  (pss_one (ps_ret (pe_tup (pa_cons (pv 11) (pa_cons (pe_callTy Gx.cr_tupL (by rfl) T.z_tuple bt_tuple (pa_cons (pe_lc (own := [("state", 12)]) (g := (gName 12)) (tt := tYes) (by rfl) sc__law_least.nd (pi_list (pv 9)) (blkOk_by (N := ["rows", "finals", "apart", "heads", "q", "p", "joined", "target", "row", "order", "k", "due_rows", "state"]) (sc := defScope s__law_least) (by decide +kernel)) (fun _ _ _ _ _ => (pg_name (i := 12) sc__law_least.nd rfl (Or.inl rfl))) (fun _ _ _ _ _ => pts_nil) (fun _ _ _ _ _ => (pe_ix (r := rIxL K) ix_list (pv 1) (pv 12) (fun _ _ => rfl)))) pa_nil)) pa_nil)))))))))))), ?_⟩
    rw [st__law_least]
    try dsimp only [cxOf]
    obtain ⟨vs, hS, hl, hrow⟩ := id hR
    walk_at "g"
    refine ⟨a, f, rows, fin, rfl, hR, five, hn, hF, hfl, fun H1 ad A s1 m1 told => ?_⟩
    have hS1 := s1.seq hS
    walk_at "g"
    rw [hl]
    refine ⟨_, rfl, by omega, by omega, fun D nD => lc_range (lo := 0) (n := (((rows.length : Nat) : Int)).toNat) (fun i H' => Same H1 H' ∧ H' D = some (.lst ((List.range i).map fun p => V.int (hd rows.length A p : Nat)))) ⟨Gx.Same.put (Same.refl H1) nD, upd_same⟩ ?_ ?_⟩
    · rintro i H2 hi ⟨s2, e2⟩
      have hi' : i < rows.length := by omega
      have hS2 := s2.seq hS1
      walk_at "g"
      refine ⟨rfl, ?_⟩
      walk_at "g"
      rw [hl]
      refine ⟨_, rfl, by omega, by omega, fun E nE => lc_range (lo := 0) (n := (((rows.length : Nat) : Int)).toNat) (fun j H' => Same H2 H' ∧ H' E = some (.lst (((List.range j).filter fun q => !A i q).map fun q => V.int (q : Nat)))) ⟨Gx.Same.put (Same.refl H2) nE, upd_same⟩ ?_ ?_⟩
      · rintro j H3 hj ⟨s3, e3⟩
        obtain ⟨xs, r, d3, xl, xp, r3, _, _⟩ := (m1.same (s2.trans s3)).get hi'
        have hle := List.length_filter_le (fun q => !A i q) (List.range j)
        rw [List.length_range] at hle
        walk_at "g"
        refine ⟨rfl, ?_⟩
        walk_at "g"
        refine Gx.ixL (SqL.of d3) (Gx.atI_of (k := i) (by omega) xp) ?_
        walk_at "g"
        refine Gx.ixL (SqL.of r3) (Gx.atI_of (k := j) (by omega) (mat_get (by omega))) ?_
        have ef : (List.range (j + 1)).filter (fun q => !A i q) = (List.range j).filter (fun q => !A i q) ++ (if A i j = true then [] else [j]) := by
          rw [List.range_succ, List.filter_append]
          cases hb : A i j <;> simp [hb]
        cases hb : A i j with
        | true =>
          rw [hb, if_pos rfl, List.append_nil] at ef
          walk_at "g"
          exact ⟨s3, by rw [ef]; exact e3⟩
        | false =>
          rw [hb, if_neg (by decide)] at ef
          walk_at "g"
          refine ⟨_, e3, Gx.lineL (by rw [List.length_map]; omega), Gx.Same.put s3 nE, ?_⟩
          rw [upd_same, Int.zero_add, ef, List.map_append]
          rfl
      · rintro H3 ⟨s3, e3⟩
        obtain ⟨h1, h2, h3⟩ := told.hd_at hi'
        walk_at "g"
        refine Gx.ixL (SqL.of e3) (Gx.atI_of (k := 0) rfl (v := .int (hd rows.length A i : Nat)) (by rw [List.getElem?_map, show (((rows.length : Nat) : Int)).toNat = rows.length from rfl, h1]; rfl)) ?_
        refine ⟨_, s3 _ _ e2, Gx.lineL (by simp; omega), Gx.Same.put (s2.trans s3) nD, ?_⟩
        rw [upd_same, List.range_succ, List.map_append]
        rfl
    · rintro H2 ⟨s2, e2⟩
      have e2 : H2 D = some (.lst ((List.range rows.length).map fun p => V.int (hd rows.length A p : Nat))) := e2
      have hhd : ∀ t, t < rows.length → ((List.range rows.length).map fun p => V.int (hd rows.length A p : Nat))[t]? = some (.int (hd rows.length A t : Nat)) := fun t ht => by
        rw [List.getElem?_map, List.getElem?_range ht]
        rfl
      have s02 := s1.trans s2
      have hS2 := s2.seq hS1
      walk_at "g"
      refine ⟨⟨_, hS2⟩, fun J nJ => lc_list (K := K) (a := a) (xs := vs) (fun i H' => Same H2 H' ∧ LsP H' J (((joinR rows A).take i).map fun row => row.map fun n => V.int (n : Nat))) ⟨Gx.Same.put (Same.refl H2) nJ, .nil upd_same⟩ (fun i H' _ z => z.1.seq hS2) ?_ ?_⟩
      · rintro i x H3 hi ⟨s3, m3⟩
        have hi' : i < rows.length := by have := (List.getElem?_eq_some_iff.mp hi).1; omega
        obtain ⟨r, hr1, hr2⟩ := hrow i _ (row_get hi')
        rw [hi] at hr1
        cases hr1
        have hr3 := (s02.trans s3).seq hr2
        obtain ⟨f1, f2⟩ := five.2 i hi'
        walk_at "g"
        refine ⟨rfl, ?_⟩
        walk_at "g"
        refine ⟨⟨_, hr3⟩, fun E nE => lc_list (K := K) (a := r) (xs := (rows.getD i []).map fun n => V.int (n : Nat)) (fun j H' => Same H3 H' ∧ H' E = some (.lst (((rows.getD i []).take j).map fun t => V.int (hd rows.length A t : Nat)))) ⟨Gx.Same.put (Same.refl H3) nE, upd_same⟩ (fun i H' _ z => z.1.seq hr3) ?_ ?_⟩
        · rintro j y H4 hj ⟨s4, e4⟩
          rw [List.getElem?_map] at hj
          cases htj : (rows.getD i [])[j]? with
          | none => rw [htj] at hj; cases hj
          | some t =>
            rw [htj] at hj
            obtain rfl := Option.some.inj hj
            have ht := f2 t (List.mem_of_getElem? htj)
            walk_at "g"
            refine ⟨rfl, ?_⟩
            walk_at "g"
            refine Gx.ixL (SqL.of ((s3.trans s4) _ _ e2)) (Gx.atI_of (k := t) rfl (hhd t ht)) ?_
            refine ⟨_, e4, Gx.lineL (by rw [List.length_map, List.length_take]; omega), Gx.Same.put s4 nE, ?_⟩
            rw [upd_same, List.take_add_one, htj, Option.toList_some, List.map_append]
            rfl
        · rintro H4 ⟨s4, e4⟩
          rw [List.length_map, List.take_length] at e4
          obtain ⟨acc, h1, h2, h3⟩ := m3.snoc s4 nE e4
          refine ⟨acc, h1, Gx.lineL (by rw [h2, List.length_map, List.length_take, joinR_len]; omega), Gx.Same.put (s3.trans s4) nJ, ?_⟩
          have ej : (joinR rows A)[i]? = some ((rows.getD i []).map (hd rows.length A)) := by
            unfold joinR
            rw [List.getElem?_map, row_get hi']
            rfl
          rw [List.take_add_one, ej, Option.toList_some, List.map_append, List.map_singleton, List.map_map]
          exact h3
      · rintro H3 ⟨s3, m3⟩
        rw [hl, ← joinR_len (rows := rows) (A := A), List.take_length] at m3
        have hJ := m3.lsAt (K := K)
        have s03 := s02.trans s3
        obtain ⟨ws, hW, wl, wrow⟩ := id hJ
        walk_at "g"
        refine Gx.ixL (SqL.of (s3 _ _ e2)) (Gx.atI_of (k := 0) rfl (hhd 0 five.1)) ?_
        rw [told.hd_0 five]
        walk_at "g"
        refine Gx.newL (by show 1 ≤ 16777216; decide) fun po H4 E4 => ?_
        have np : H po = none := s03.free E4.fresh
        have s04 := s03.trans E4.same
        have e4 : H4 po = some (.lst (([0] : List Nat).map fun n => V.int (n : Nat))) := E4.at_
        walk_at "g"
        refine ⟨fun σ H' => ∃ (o : List Nat) (y1 y2 y3 y4 y5 y6 y7 : Option V), Same H3 H' ∧ H' po = some (.lst (o.map fun n => V.int (n : Nat))) ∧ Ord rows A o.length o ∧ σ = [some (.ref a), some (.ref f), some (.ref ad), some (.ref D), y1, y2, some (.ref J), y3, y4, some (.ref po), y5, y6, y7], ?_, ?_⟩
        · walk_at "g"
          refine Gx.lenL (s04.seq hS) ?_
          rw [hl]
          walk_at "g"
          refine ⟨_, rfl, by omega, by omega, for_range (lo := 0) (n := (((rows.length : Nat) : Int)).toNat) (fun k σ H' => ∃ (o : List Nat) (y1 y2 y3 y4 y5 y6 y7 : Option V), Same H3 H' ∧ H' po = some (.lst (o.map fun n => V.int (n : Nat))) ∧ Ord rows A k o ∧ σ = [some (.ref a), some (.ref f), some (.ref ad), some (.ref D), y1, y2, some (.ref J), y3, y4, some (.ref po), y5, y6, y7])
            ⟨[0], none, none, none, none, none, none, none, E4.same, e4, ⟨.start, fun s hs => by cases List.mem_singleton.mp hs; exact ⟨five.1, told.hd_0 five⟩, by simp, rfl, fun s hs => by simp at hs⟩, rfl⟩ ?_ ?_⟩
          · rintro k σ H5 hk ⟨o, y1, y2, y3, y4, y5, y6, y7, s5, e5, od, rfl⟩
            have hol := nodup_le o rows.length od.nd fun x hx => (od.fx x hx).1
            have hge := bfs_ge od.bfs
            walk_at "g"
            refine Gx.lenL (SqL.of e5) ?_
            rw [List.length_map]
            walk_at "g"
            refine Gx.iteD (fun c => ?_) (fun c => ?_)
            · have ek : k = o.length := by omega
              subst ek
              walk_at "g"
              exact ⟨o, _, _, _, _, _, _, _, s5, e5, od, rfl⟩
            · have hko : k < o.length := by omega
              obtain ⟨s0, hs0⟩ : ∃ s, o[k]? = some s := ⟨_, List.getElem?_eq_getElem hko⟩
              have hs0n := (od.fx s0 (List.mem_of_getElem? hs0)).1
              have hlen : (joinR rows A).length = rows.length := joinR_len
              obtain ⟨r, hr1, hr2⟩ := wrow s0 _ (row_get (by omega))
              have hr5 := s5.seq hr2
              have htn : ∀ t ∈ (joinR rows A).getD s0 [], t < rows.length ∧ hd rows.length A t = t := fun t ht => by
                rw [joinR_get hs0n] at ht
                obtain ⟨x, hx, rfl⟩ := List.mem_map.mp ht
                have hxn := (five.2 s0 hs0n).2 x hx
                exact ⟨(told.hd_at hxn).2.1, told.hd_hd five hxn⟩
              walk_at "g"
              refine Gx.ixL (SqL.of e5) (Gx.atI_of (k := k) (by omega) (v := .int (s0 : Nat)) (by rw [List.getElem?_map, hs0]; rfl)) ?_
              walk_at "g"
              refine Gx.ixL (s5.seq hW) (Gx.atI_of (k := s0) rfl hr1) ?_
              walk_at "g"
              refine ⟨⟨_, hr5⟩, for_list (K := K) (a := r) (xs := ((joinR rows A).getD s0 []).map fun n => V.int (n : Nat)) (fun i σ H' => ∃ (o' : List Nat) (y1 y2 y3 y4 y6 y7 : Option V), Same H3 H' ∧ H' po = some (.lst (o'.map fun n => V.int (n : Nat))) ∧ (∃ z, o' = o ++ z) ∧ o' = (((joinR rows A).getD s0 []).take i).foldl (pick1 fun x => x) o ∧ o'.Nodup ∧ (∀ s ∈ o', s < rows.length ∧ hd rows.length A s = s) ∧ (∀ t ∈ ((joinR rows A).getD s0 []).take i, t ∈ o') ∧ σ = [some (.ref a), some (.ref f), some (.ref ad), some (.ref D), y1, y2, some (.ref J), y3, y4, some (.ref po), some (.int (0 + k)), y6, y7])
                ⟨o, _, _, _, _, _, _, s5, e5, ⟨[], (List.append_nil o).symm⟩, rfl, od.nd, od.fx, fun t ht => by simp at ht, rfl⟩ (fun i σ H' _ ⟨_, _, _, _, _, _, _, e, _⟩ => e.seq hr2) ?_ ?_⟩
              · rintro i x σ H6 hi ⟨o', y1, y2, y3, y4, y6, y7, s6, e6, ⟨z, ez⟩, fo, nd6, fx6, tk6, rfl⟩
                rw [List.getElem?_map] at hi
                cases hti : ((joinR rows A).getD s0 [])[i]? with
                | none => rw [hti] at hi; cases hi
                | some t =>
                  rw [hti] at hi
                  obtain rfl := Option.some.inj hi
                  have ht := htn t (List.mem_of_getElem? hti)
                  have hol' := nodup_le o' rows.length nd6 fun x hx => (fx6 x hx).1
                  have htk : ∀ x ∈ ((joinR rows A).getD s0 []).take (i + 1), x ∈ ((joinR rows A).getD s0 []).take i ∨ x = t := fun x hx => by
                    rw [List.take_add_one, hti, Option.toList_some] at hx
                    rcases List.mem_append.mp hx with h | h
                    · exact .inl h
                    · exact .inr (List.mem_singleton.mp h)
                  have fo' : (((joinR rows A).getD s0 []).take (i + 1)).foldl (pick1 fun x => x) o = pick1 (fun x => x) o' t := by
                    rw [List.take_add_one, hti, Option.toList_some, List.foldl_append, ← fo]
                    rfl
                  rw [pick_id] at fo'
                  walk_at "g"
                  refine notInI (SqL.of e6) ?_
                  walk_at "g"
                  by_cases hin : t ∈ o'
                  · rw [if_pos hin] at fo'
                    rw [decide_eq_true hin]
                    walk_at "g"
                    refine ⟨o', _, _, _, _, _, _, s6, e6, ⟨z, ez⟩, fo'.symm, nd6, fx6, fun x hx => ?_, rfl⟩
                    rcases htk x hx with h | rfl
                    · exact tk6 x h
                    · exact hin
                  · rw [if_neg hin] at fo'
                    rw [decide_eq_false hin]
                    walk_at "g"
                    refine Gx.app e6 (by rw [List.length_map, sizeLine_eq]; omega) ?_
                    walk_at "g"
                    refine ⟨o' ++ [t], _, _, _, _, _, _, Gx.Same.put s6 E4.fresh, by rw [upd_same, List.map_append]; rfl, ⟨z ++ [t], by rw [ez, List.append_assoc]⟩, fo'.symm, nodup_snoc nd6 hin, fun s hs => ?_, fun x hx => ?_, rfl⟩
                    · rcases List.mem_append.mp hs with h | h
                      · exact fx6 s h
                      · cases List.mem_singleton.mp h
                        exact ht
                    · rcases htk x hx with h | rfl
                      · exact List.mem_append_left _ (tk6 x h)
                      · exact List.mem_append_right _ (List.mem_singleton.mpr rfl)
              · rintro σ H6 ⟨o', y1, y2, y3, y4, y6, y7, s6, e6, ⟨z, rfl⟩, fo, nd6, fx6, tk6, rfl⟩
                rw [List.length_map, List.take_length] at fo tk6
                refine ⟨o ++ z, _, _, _, _, _, _, _, s6, e6, ⟨?_, fx6, nd6, by rw [List.getElem?_append_left (by omega)]; exact od.h0, fun s hs t ht => ?_⟩, rfl⟩
                · rw [fo]
                  exact .step od.bfs hs0
                · rw [List.take_append_of_le_length (by omega), List.take_add_one, hs0, Option.toList_some] at hs
                  rcases List.mem_append.mp hs with h | h
                  · exact List.mem_append_left _ (od.cl s h t ht)
                  · cases List.mem_singleton.mp h
                    exact tk6 t ht
          · rintro σ H5 ⟨o, y1, y2, y3, y4, y5, y6, y7, s5, e5, od, rfl⟩
            have hol := nodup_le o rows.length od.nd fun x hx => (od.fx x hx).1
            have hge := bfs_ge od.bfs
            have ek : (((rows.length : Nat) : Int)).toNat = o.length := by omega
            rw [ek] at od
            exact ⟨o, _, _, _, _, _, _, _, s5, e5, od, rfl⟩
        · rintro σ H5 ⟨o, y1, y2, y3, y4, y5, y6, y7, s5, e5, od, rfl⟩
          have hcl := od.cl
          rw [List.take_length] at hcl
          have s35 := s5
          walk_at "g"
          refine ⟨⟨_, SqL.of e5⟩, fun U nU => lc_list (K := K) (a := po) (xs := o.map fun n => V.int (n : Nat)) (fun i H' => Same H5 H' ∧ ∃ us, H' U = some (.lst us) ∧ DpAll K H' us (((o.take i).map fun s => newRow (fun x => x) o ((joinR rows A).getD s [])).map rowD)) ⟨Gx.Same.put (Same.refl H5) nU, [], upd_same, .nil⟩ (fun i H' _ z => SqL.of (z.1 _ _ e5)) ?_ ?_⟩
          · rintro i x H6 hi ⟨s6, us, e6, d6⟩
            rw [List.getElem?_map] at hi
            cases hti : o[i]? with
            | none => rw [hti] at hi; cases hi
            | some s0 =>
              rw [hti] at hi
              obtain rfl := Option.some.inj hi
              have hs0 := List.mem_of_getElem? hti
              have hs0n := (od.fx s0 hs0).1
              have hol := nodup_le o rows.length od.nd fun x hx => (od.fx x hx).1
              have hlen : (joinR rows A).length = rows.length := joinR_len
              have hrl : ((joinR rows A).getD s0 []).length = 5 := by rw [joinR_get hs0n, List.length_map]; exact (five.2 s0 hs0n).1
              obtain ⟨r, hr1, hr2⟩ := wrow s0 _ (row_get (by omega))
              have hr6 := (s5.trans s6).seq hr2
              walk_at "g"
              refine ⟨rfl, ?_⟩
              walk_at "g"
              refine Gx.ixL ((s5.trans s6).seq hW) (Gx.atI_of (k := s0) rfl hr1) ?_
              walk_at "g"
              refine ⟨⟨_, hr6⟩, fun E nE => lc_list (K := K) (a := r) (xs := ((joinR rows A).getD s0 []).map fun n => V.int (n : Nat)) (fun j H' => Same H6 H' ∧ H' E = some (.lst ((((joinR rows A).getD s0 []).take j).map fun t => V.int (o.idxOf t : Nat)))) ⟨Gx.Same.put (Same.refl H6) nE, upd_same⟩ (fun i H' _ z => z.1.seq hr6) ?_ ?_⟩
              · rintro j y H7 hj ⟨s7, e7⟩
                rw [List.getElem?_map] at hj
                cases htj : ((joinR rows A).getD s0 [])[j]? with
                | none => rw [htj] at hj; cases hj
                | some t =>
                  rw [htj] at hj
                  obtain rfl := Option.some.inj hj
                  walk_at "g"
                  refine ⟨rfl, ?_⟩
                  walk_at "g"
                  refine ⟨.inl ⟨rfl, _, SqL.of ((s6.trans s7) _ _ e5)⟩, ?_⟩
                  walk_at "g"
                  refine indexI (SqL.of ((s6.trans s7) _ _ e5)) (hcl s0 hs0 t (List.mem_of_getElem? htj)) ?_
                  refine ⟨_, e7, Gx.lineL (by rw [List.length_map, List.length_take]; omega), Gx.Same.put s7 nE, ?_⟩
                  rw [upd_same, List.take_add_one, htj, Option.toList_some, List.map_append]
                  rfl
              · rintro H7 ⟨s7, e7⟩
                rw [List.length_map, List.take_length] at e7
                walk_at "g"
                refine Gx.tupL (SqL.of e7) fun c0 nc => ?_
                have E8 := Gx.ext1 (o := .tup (((joinR rows A).getD s0 []).map fun t => V.int (o.idxOf t : Nat))) nc
                generalize upd H7 c0 (.tup (((joinR rows A).getD s0 []).map fun t => V.int (o.idxOf t : Nat))) = H8 at E8 ⊢
                have s68 := s7.trans E8.same
                have ul := Gx.dpAll_len d6
                rw [List.length_map, List.length_map, List.length_take] at ul
                have dc : Dp K H8 (.ref c0) (rowD (newRow (fun x => x) o ((joinR rows A).getD s0 []))) := by
                  rw [newRow_id]
                  refine .tup (SqT.of E8.at_) ?_
                  have := dpAll_nats (K := K) (H := H8) (((joinR rows A).getD s0 []).map fun t => o.idxOf t)
                  rw [List.map_map] at this
                  exact this
                refine ⟨us, s68 _ _ e6, Gx.lineL (by omega), Gx.Same.put (s6.trans s68) nU, _, upd_same, ?_⟩
                rw [List.take_add_one, hti, Option.toList_some, List.map_append, List.map_append]
                exact Gx.dpAll_snoc (s68 _ _ e6) (Gx.dpAll_same s68 _ _ d6) (noLs_rows _) dc (noL_row _)
          · rintro H6 ⟨s6, us, e6, d6⟩
            rw [List.length_map, List.take_length] at d6
            walk_at "g"
            refine Gx.tupL (SqL.of e6) fun c0 nc => ?_
            have E7 := Gx.ext1 (o := .tup us) nc
            generalize upd H6 c0 (.tup us) = H7 at E7 ⊢
            have s57 := s6.trans E7.same
            have hF7 := (s03.trans (s5.trans s57)).seq hF
            walk_at "g"
            refine ⟨⟨_, SqL.of (s57 _ _ e5)⟩, fun W nW => lc_list (K := K) (a := po) (xs := o.map fun n => V.int (n : Nat)) (fun i H' => Same H7 H' ∧ H' W = some (.lst ((o.take i).map fun s => V.bl (fin.getD s false)))) ⟨Gx.Same.put (Same.refl H7) nW, upd_same⟩ (fun i H' _ z => SqL.of (z.1 _ _ (s57 _ _ e5))) ?_ ?_⟩
            · rintro i x H8 hi ⟨s8, e8⟩
              rw [List.getElem?_map] at hi
              cases hti : o[i]? with
              | none => rw [hti] at hi; cases hi
              | some s0 =>
                rw [hti] at hi
                obtain rfl := Option.some.inj hi
                have hs0n := (od.fx s0 (List.mem_of_getElem? hti)).1
                have hol := nodup_le o rows.length od.nd fun x hx => (od.fx x hx).1
                walk_at "g"
                refine ⟨rfl, ?_⟩
                walk_at "g"
                refine Gx.ixL (s8.seq hF7) (Gx.atI_of (k := s0) rfl (bl_get (by omega))) ?_
                refine ⟨_, e8, Gx.lineL (by rw [List.length_map, List.length_take]; omega), Gx.Same.put s8 nW, ?_⟩
                rw [upd_same, List.take_add_one, hti, Option.toList_some, List.map_append]
                rfl
            · rintro H8 ⟨s8, e8⟩
              rw [List.length_map, List.take_length] at e8
              walk_at "g"
              refine Gx.tupL (SqL.of e8) fun c1 nc1 => ?_
              have E9 := Gx.ext1 (o := .tup (o.map fun s => V.bl (fin.getD s false))) nc1
              generalize upd H8 c1 (.tup (o.map fun s => V.bl (fin.getD s false))) = H9 at E9 ⊢
              walk_at "g"
              refine Gx.newT (by show 2 ≤ 16777216; decide) fun u H10 E10 => ?_
              have s710 := (s8.trans E9.same).trans E10.same
              refine q H10 u _ _ (lRows (joinR rows A) (fun x => x) o) (lFins fin o) (s03.trans (s5.trans (s57.trans s710))) E10.at_ (.tup (SqT.of (s710 _ _ E7.at_)) (Gx.dpAll_same (E7.same.trans s710) _ _ d6)) (.tup (SqT.of (E10.same _ _ E9.at_)) ?_) ⟨A, o, told, od.least five told, rfl, rfl⟩
              have := dpAll_bools (K := K) (H := H10) (lFins fin o)
              unfold lFins at this ⊢
              rw [List.map_map] at this
              exact this
end
end K15
namespace K15
open PySem PySem.Spec PyProof.Rows L2
local macro_rules | `(tactic| walk_at "con") => `(tactic| first | with_reducible refine Gx.conE K15.ks0 ?_ | with_reducible refine Gx.conE K15.ks1 ?_ | with_reducible refine Gx.conE K15.ks2 ?_ | with_reducible refine Gx.conE K15.ks3 ?_ | with_reducible refine Gx.conE K15.ks4 ?_ | with_reducible refine Gx.conE K15.ks5 ?_ | with_reducible refine Gx.conE K15.ks6 ?_ | with_reducible refine Gx.conE K15.ks7 ?_ | with_reducible refine Gx.conE K15.ks8 ?_ | with_reducible refine Gx.conE K15.ks9 ?_ | with_reducible refine Gx.conE K15.ks10 ?_ | with_reducible refine Gx.conE K15.ks11 ?_ | with_reducible refine Gx.conE K15.ks12 ?_ | with_reducible refine Gx.conE K15.ks13 ?_ | with_reducible refine Gx.conE K15.ks14 ?_ | with_reducible refine Gx.conE K15.ks15 ?_)
section
variable {P : Program} {w : World} {K : PySem.W.Frag} {mg : Str → Option Value} {base : Heap}
/-! ### the law's least machine and the program's, in plain Lean -/
theorem Rl.comp {R S : Nat → Nat → Prop} : ∀ {l m k : List Nat}, Rl R l m → Rl S m k → Rl (fun a c => ∃ b, R a b ∧ S b c) l k
  | _, _, _, .nil, .nil => .nil
  | _, _, _, .cons a t, .cons b u => .cons ⟨_, a, b⟩ (t.comp u)
theorem Sim.comp {r1 r2 r3 : List (List Nat)} {f1 f2 f3 : List Bool} {R S : Nat → Nat → Prop} (h : Sim r1 f1 r2 f2 R) (g : Sim r2 f2 r3 f3 S) : Sim r1 f1 r3 f3 (fun a c => ∃ b, R a b ∧ S b c) := by
  rintro s t ⟨b, x, y⟩
  obtain ⟨a1, a2⟩ := h s b x
  obtain ⟨b1, b2⟩ := g b t y
  exact ⟨a1.trans b1, a2.comp b2⟩
theorem Rl.refl : ∀ l : List Nat, Rl (fun a b => a = b) l l
  | [] => .nil
  | _ :: l => .cons rfl (Rl.refl l)
theorem Sim.refl (rows : List (List Nat)) (fin : List Bool) : Sim rows fin rows fin (fun a b => a = b) := by
  rintro s _ rfl
  exact ⟨rfl, Rl.refl _⟩
theorem LawLeast.same {rows rows' : List (List Nat)} {fin fin' : List Bool} {R : List (List Nat)} {F : List Bool} {S : Nat → Nat → Prop} {o : List Nat} {mk : Nat → Nat} {pk : List Nat} (five : Five rows) (h : LawLeast rows fin R F) (g : Sim rows' fin' rows fin S) (g0 : S 0 0) (L : LeastOf rows' fin' o mk pk) :
    lRows rows' mk pk = R ∧ lFins fin' pk = F := by
  obtain ⟨A, o', told, L', rfl, rfl⟩ := h
  exact least_unique (g.comp (told.sim five)) ⟨0, g0, five.1, (told.hd_0 five).symm⟩ L L'
theorem fold_tk {mk : Nat → Nat} : ∀ (l pk : List Nat), (∃ z, l.foldl (pick1 mk) pk = pk ++ z) ∧ ∀ t ∈ l, mk t ∈ (l.foldl (pick1 mk) pk).map mk
  | [], pk => ⟨⟨[], (List.append_nil _).symm⟩, fun t ht => by cases ht⟩
  | x :: l, pk => by
    obtain ⟨⟨z, hz⟩, h⟩ := fold_tk (mk := mk) l (pick1 mk pk x)
    obtain ⟨y, hy⟩ := pick1_pre mk pk x
    refine ⟨⟨y ++ z, by rw [List.foldl_cons, hz, hy, List.append_assoc]⟩, fun t ht => ?_⟩
    rw [List.foldl_cons]
    rcases List.mem_cons.mp ht with rfl | ht
    · rw [hz, List.map_append]
      exact List.mem_append_left _ (pick1_mem mk pk t)
    · exact h t ht
theorem bfs_tk {rows : List (List Nat)} {mk : Nat → Nat} {s0 n : Nat} {pk : List Nat} (b : Bfs rows mk s0 n pk) : ∀ s ∈ pk.take n, ∀ t ∈ rows.getD s [], mk t ∈ pk.map mk := by
  induction b with
  | start => intro s hs; simp at hs
  | @step at_ pk s0 b e ih =>
    obtain ⟨⟨z, hz⟩, h⟩ := fold_tk (mk := mk) (rows.getD s0 []) pk
    have hl := (List.getElem?_eq_some_iff.mp e).1
    intro s hs t ht
    rw [hz, List.take_append_of_le_length (by omega), List.take_add_one, e, Option.toList_some] at hs
    rcases List.mem_append.mp hs with q | q
    · rw [hz, List.map_append]
      exact List.mem_append_left _ (ih s q t ht)
    · cases List.mem_singleton.mp q
      exact h t ht
theorem bfs_pos {rows : List (List Nat)} {mk : Nat → Nat} {s0 n : Nat} {pk : List Nat} (b : Bfs rows mk s0 n pk) : 0 < pk.length := by
  induction b with
  | start => exact Nat.one_pos
  | @step at_ pk s b e ih =>
    obtain ⟨⟨z, hz⟩, _⟩ := fold_tk (mk := mk) (rows.getD s []) pk
    rw [hz, List.length_append]
    omega
theorem LeastOf.five {rows : List (List Nat)} {fin : List Bool} {o : List Nat} {mk : Nat → Nat} {pk : List Nat} (five : Five rows) (L : LeastOf rows fin o mk pk) : Five (lRows rows mk pk) ∧ (lFins fin pk).length = (lRows rows mk pk).length := by
  obtain ⟨cl, co, bf, sub, nd⟩ := L
  have hl : (lRows rows mk pk).length = pk.length := by unfold lRows; rw [List.length_map]
  have tk := bfs_tk bf
  rw [List.take_length] at tk
  refine ⟨⟨by rw [hl]; exact bfs_pos bf, fun i hi => ?_⟩, by rw [hl]; unfold lFins; rw [List.length_map]⟩
  rw [hl] at hi
  have e : (lRows rows mk pk).getD i [] = newRow mk pk (rows.getD pk[i] []) := by
    unfold lRows
    rw [List.getD_eq_getElem?_getD, List.getElem?_map, List.getElem?_eq_getElem hi]
    rfl
  have hm := List.getElem_mem hi
  rw [e, hl]
  unfold newRow
  refine ⟨by rw [List.length_map]; exact (five.2 _ (cl.2.1 _ (sub _ hm))).1, fun t ht => ?_⟩
  obtain ⟨x, hx, rfl⟩ := List.mem_map.mp ht
  have := List.idxOf_lt_length_of_mem (tk _ hm x hx)
  rwa [List.length_map] at this
theorem joinR_five {rows : List (List Nat)} {fin : List Bool} {A : Nat → Nat → Bool} (five : Five rows) (told : Told rows fin A) : Five (joinR rows A) := by
  refine ⟨by rw [joinR_len]; exact five.1, fun s hs => ?_⟩
  rw [joinR_len] at hs
  rw [joinR_get hs, joinR_len]
  refine ⟨by rw [List.length_map]; exact (five.2 s hs).1, fun t ht => ?_⟩
  obtain ⟨x, hx, rfl⟩ := List.mem_map.mp ht
  exact (told.hd_at ((five.2 s hs).2 x hx)).2.1
theorem LawLeast.five {rows : List (List Nat)} {fin : List Bool} {R : List (List Nat)} {F : List Bool} (five : Five rows) (h : LawLeast rows fin R F) : Five R ∧ F.length = R.length ∧ R.length ≤ rows.length := by
  obtain ⟨A, o', told, L', rfl, rfl⟩ := h
  obtain ⟨h1, h2⟩ := L'.five (joinR_five five told)
  refine ⟨h1, h2, ?_⟩
  have := least_le L'
  rw [joinR_len] at this
  unfold lRows
  rw [List.length_map]
  exact this
theorem runM_some {R : List (List Nat)} (five : Five R) : ∀ (l : List Nat) (s : Nat), s < R.length → (∀ c ∈ l, (plc c).isSome = true) → ∃ t, runM R s l = some t
  | [], s, _, _ => ⟨s, rfl⟩
  | c :: l, s, hs, h => by
    rw [runM]
    have hc := h c List.mem_cons_self
    cases e : plc c with
    | none => rw [e] at hc; cases hc
    | some k => exact runM_some five l _ (five.mv_lt hs (plc_lt e)) fun x hx => h x (List.mem_cons_of_mem _ hx)
theorem runM_bad {R : List (List Nat)} {a b : List Nat} {c : Nat} (h : plc c = none) (s : Nat) : runM R s (a ++ c :: b) = none := by
  rw [runM_app]
  cases runM R s a with
  | none => rfl
  | some t => rw [Option.bind_some, runM, h]
end
end K15
namespace K15
open PySem PySem.Spec PyProof.Rows L2
local macro_rules | `(tactic| walk_at "con") => `(tactic| first | with_reducible refine Gx.conE K15.ks0 ?_ | with_reducible refine Gx.conE K15.ks1 ?_ | with_reducible refine Gx.conE K15.ks2 ?_ | with_reducible refine Gx.conE K15.ks3 ?_ | with_reducible refine Gx.conE K15.ks4 ?_ | with_reducible refine Gx.conE K15.ks5 ?_ | with_reducible refine Gx.conE K15.ks6 ?_ | with_reducible refine Gx.conE K15.ks7 ?_ | with_reducible refine Gx.conE K15.ks8 ?_ | with_reducible refine Gx.conE K15.ks9 ?_ | with_reducible refine Gx.conE K15.ks10 ?_ | with_reducible refine Gx.conE K15.ks11 ?_ | with_reducible refine Gx.conE K15.ks12 ?_ | with_reducible refine Gx.conE K15.ks13 ?_ | with_reducible refine Gx.conE K15.ks14 ?_ | with_reducible refine Gx.conE K15.ks15 ?_)
section
variable {P : Program} {w : World} {K : PySem.W.Frag} {mg : Str → Option Value} {base : Heap}
def mix (cell k : Int) : Int :=
  ((((cell * 48271 + k * 7919 + 101) % 2147483647) * ((cell * 48271 + k * 7919 + 101) % 2147483647) + 31 * ((cell * 48271 + k * 7919 + 101) % 2147483647) + k * k * 17) % 1000000007 * 69621 + 5) % 2147483647 / 7
def sp_mix : Sp := fun vs H Q _ => ∃ (c k : Int), vs = [.int c, .int k] ∧ 0 ≤ k ∧ k < 10000 ∧ Q (.int (mix c k)) H
theorem G__law_mix (T : Txt K mg w) : FnOk P w K mg base CX0 1 T.f__law_mix T.fd__law_mix ["cell", "k"] sp_mix := by
  refine T.F__law_mix.ok sc__law_mix (fun vs H Q E h => ?_) (fun cdv A outer s H vs Q E hr h => ?_)
  · obtain ⟨c, k, rfl, _⟩ := h
    rfl
  · obtain ⟨c, k, rfl, h0, h1, q⟩ := h
    refine ⟨_, ((pss_cons (ps_set (i := 2) sc__law_mix.nd rfl (Or.inl rfl) (pe_op op_mod (pe_op op_add (pe_op op_add (pe_op op_mul (pe_callTy Gx.cr_int1 (by rfl) T.z_int bt_int (pa_cons (pv 0) pa_nil)) pe_int) (pe_op op_mul (pv 1) pe_int)) pe_int) pe_int))
  (pss_cons (ps_set (i := 3) sc__law_mix.nd rfl (Or.inl rfl) (pe_op op_mod (pe_op op_add (pe_op op_add (pe_op op_mul (pv 2) (pv 2)) (pe_op op_mul pe_int (pv 2))) (pe_op op_mul (pe_op op_mul (pv 1) (pv 1)) pe_int)) pe_int))
  (pss_one (ps_ret (pe_op op_fdiv (pe_op op_mod (pe_op op_add (pe_op op_mul (pv 3) pe_int) pe_int) pe_int) pe_int)))))), ?_⟩
    rw [st__law_mix]
    walk_at "g"
    exact q
/-- a digit -/
def Dig (xs : List Int) : Prop := ∀ x ∈ xs, 0 ≤ x ∧ x < 60
theorem Dig.snoc {xs : List Int} {z : Int} (h : Dig xs) (a : 0 ≤ z) (b : z < 60) : Dig (xs ++ [z]) := fun x hx => by
  rcases List.mem_append.mp hx with h1 | h1
  · exact h x h1
  · cases List.mem_singleton.mp h1
    exact ⟨a, b⟩
def sp_stream (K : PySem.W.Frag) : Sp := fun vs H Q _ => ∃ (a : Addr) (ns : List Int) (many : Int), vs = [.ref a, .int many] ∧ SqL K H a (ns.map V.int) ∧ ns.length ≤ 63 ∧ 0 ≤ many ∧ many ≤ 1000 ∧
  ∀ H' p xs, Same H H' → H p = none → H' p = some (.lst (xs.map V.int)) → (xs.length : Int) = many → Dig xs → Q (.ref p) H'
theorem G__law_stream (T : Txt K mg w) : FnOk P w K mg base CX0 2 T.f__law_stream T.fd__law_stream ["script", "many"] (sp_stream K) := by
  have G__law_mix := G__law_mix (P := P) (w := w) (base := base) T
  refine T.F__law_stream.ok sc__law_stream (fun vs H Q E h => ?_) (fun cdv A outer s H vs Q E hr h => ?_)
  · obtain ⟨a, ns, many, rfl, _⟩ := h
    rfl
  · obtain ⟨a, ns, many, rfl, hS, hlen, h0, h1, q⟩ := h
    refine ⟨_, ((pss_cons (ps_set (i := 2) sc__law_stream.nd rfl (Or.inl rfl) pe_int)
  (C8.pss_cut (ps_if (pt_cmpR op_gt (pe_callB Gx.cr_lenQ (by rfl) T.z_len bt_len (pa_cons (pv 0) pa_nil)) pe_int (nomark _))
  (pss_one (ps_set (i := 2) sc__law_stream.nd rfl (Or.inl rfl) (pe_callB Gx.cr_abs (by rfl) T.z_abs bt_abs (pa_cons (pe_callTy Gx.cr_int1 (by rfl) T.z_int bt_int (pa_cons (pe_ix ix_list (pv 0) pe_int (fun _ _ => rfl)) pa_nil)) pa_nil))))
  pss_nil)
  (C8.pss_cut (ps_if (pt_cmpR op_lt (pv 2) (pe_op op_pow pe_int pe_int) (nomark _))
  (pss_one (ps_set (i := 2) sc__law_stream.nd rfl (Or.inl rfl) pe_int))
  pss_nil)
  (pss_cons (ps_set (i := 3) sc__law_stream.nd rfl (Or.inl rfl) (pe_lst pa_nil))
  (pss_cons (ps_for PassesOwn.never rfl (pi_range1 rfl T.z_range (pa_cons (pv 1) pa_nil)) (pg_name (i := 4) sc__law_stream.nd rfl (Or.inl rfl))
  (pss_one (ps_if (pt_cmpR op_gt (pv 2) pe_int (nomark _))
  (pss_cons (ps_expr (pe_bm PySem.F.plainAttrs_list PySem.F.slot_list_append PySem.F.type_list_append mt_append (pv 3) (pa_cons (pe_op op_mod (pv 2) pe_int) pa_nil)))
  (pss_one (ps_set (i := 2) sc__law_stream.nd rfl (Or.inl rfl) (pe_op op_fdiv (pv 2) pe_int))))
  (pss_cons (ps_set (i := 5) sc__law_stream.nd rfl (Or.inl rfl) pe_int)
  (C8.pss_cut (ps_if (pt_cmpR op_gt (pe_callB Gx.cr_lenQ (by rfl) T.z_len bt_len (pa_cons (pv 0) pa_nil)) pe_int (nomark _))
  (pss_one (ps_set (i := 5) sc__law_stream.nd rfl (Or.inl rfl) (pe_ix ix_list (pv 0) (pe_op op_mod (pv 4) (pe_callB Gx.cr_lenQ (by rfl) T.z_len bt_len (pa_cons (pv 0) pa_nil))) (fun _ _ => rfl))))
  pss_nil)
  (pss_one (ps_expr (pe_bm PySem.F.plainAttrs_list PySem.F.slot_list_append PySem.F.type_list_append mt_append (pv 3) (pa_cons (pe_op op_mod (pe_call G__law_mix (hr.mono (by first | decide | omega)) (by rfl) T.g__law_mix T.F__law_mix.kp T.b__law_mix .nil pass0 (pa_cons (pv 5) (pa_cons (pv 4) pa_nil))) pe_int) pa_nil)))))))))
  (pss_one (ps_ret (pv 3))))))))), ?_⟩
    rw [st__law_stream]
    try dsimp only [cxOf]
    walk_at "g"
    have hS' : ∀ H', Same H H' → SqL K H' a (ns.map V.int) := fun H' e => e.seq hS
    -- the first cell
    refine ⟨fun σ H1 => ∃ rest : Int, 0 ≤ rest ∧ H1 = H ∧ σ = [some (.ref a), some (.int many), some (.int rest), none, none, none], ?_, ?_⟩
    · walk_at "g"
      refine Gx.iteD (fun e => ?_) (fun e => ?_)
      · walk_at "g"
        exact ⟨_, by split <;> omega, rfl, rfl⟩
      · walk_at "g"
        exact ⟨0, by omega, rfl, rfl⟩
    · rintro σ H1 ⟨rest, hr0, rfl, rfl⟩
      walk_at "g"
      refine ⟨fun σ H2 => ∃ rest : Int, 0 ≤ rest ∧ H2 = H1 ∧ σ = [some (.ref a), some (.int many), some (.int rest), none, none, none], ?_, ?_⟩
      · walk_at "g"
        refine Gx.iteD (fun e => ?_) (fun e => ?_)
        · walk_at "g"
          exact ⟨0, by omega, rfl, rfl⟩
        · walk_at "g"
          exact ⟨rest, hr0, rfl, rfl⟩
      · rintro σ H2 ⟨rest, hr0, rfl, rfl⟩
        walk_at "g"
        refine Gx.newD (by decide) (fun p H3 E3 => ?_)
        walk_at "g"
        refine ⟨_, rfl, by omega, by omega, for_range (fun i σ H4 => ∃ (rest : Int) (y z : Option V) (xs : List Int), 0 ≤ rest ∧ σ = [some (.ref a), some (.int many), some (.int rest), some (.ref p), y, z] ∧ Same H2 H4 ∧
          H4 p = some (.lst (xs.map V.int)) ∧ xs.length = i ∧ Dig xs) ⟨rest, none, none, [], hr0, rfl, E3.same, E3.at_, rfl, fun x hx => by cases hx⟩ ?_ ?_⟩
        · rintro i σ H4 hi ⟨rest, y, z, xs, h2, rfl, s4, e4, l4, d4⟩
          walk_at "g"
          have hS4 : SqL K H4 a (ns.map V.int) := hS' _ s4
          refine Gx.iteD (fun e => ?_) (fun e => ?_)
          · walk_at "g"
            exact ⟨rest / 60, _, _, xs ++ [rest % 60], by omega, rfl, Gx.Same.put s4 E3.fresh, upd_same, by simp [l4], d4.snoc (by omega) (by omega)⟩
          · walk_at "g"
            refine ⟨fun σ H5 => ∃ cell : Int, H5 = H4 ∧ σ = [some (.ref a), some (.int many), some (.int rest), some (.ref p), some (.int (0 + i)), some (.int cell)], ?_, ?_⟩
            · walk_at "g"
              refine Gx.iteD (fun e => ?_) (fun e => ?_)
              · walk_at "g"
                exact ⟨_, rfl, rfl⟩
              · walk_at "g"
                exact ⟨_, rfl, rfl⟩
            · rintro σ H5 ⟨cell, rfl, rfl⟩
              walk_at "g"
              refine ⟨_, _, rfl, by omega, by omega, ?_⟩
              walk_at "g"
              exact ⟨rest, _, _, xs ++ [mix cell (0 + i) % 60], by omega, rfl, Gx.Same.put s4 E3.fresh, upd_same, by simp [l4], d4.snoc (by omega) (by omega)⟩
        · rintro σ H4 ⟨rest, y, z, xs, h2, rfl, s4, e4, l4, d4⟩
          walk_at "g"
          exact q H4 p xs s4 E3.fresh e4 (by omega) d4
/-- int(numbers[at % len(numbers)]) % many -/
def pk0 (xs : List Int) (i m : Nat) : Nat := (xs.getD i 0 % m).toNat
theorem pk0_lt (xs : List Int) (i : Nat) {m : Nat} (h : 0 < m) : pk0 xs i m < m := by
  unfold pk0
  have h1 := Int.emod_nonneg (xs.getD i 0) (b := (m : Int)) (by omega)
  have h2 := Int.emod_lt_of_pos (xs.getD i 0) (b := (m : Int)) (by omega)
  omega
def sp_pick (K : PySem.W.Frag) : Sp := fun vs H Q _ => ∃ (a : Addr) (xs : List Int) (i m : Int), vs = [.ref a, .int i, .int m] ∧ SqL K H a (xs.map V.int) ∧ 0 ≤ i ∧ i < xs.length ∧ 0 < m ∧ Q (.int (pk0 xs i.toNat m.toNat : Nat)) H
theorem G__law_pick (T : Txt K mg w) : FnOk P w K mg base CX0 1 T.f__law_pick T.fd__law_pick ["numbers", "at", "many"] (sp_pick K) := by
  refine T.F__law_pick.ok sc__law_pick (fun vs H Q E h => ?_) (fun cdv A outer s H vs Q E hr h => ?_)
  · obtain ⟨a, ns, i, m, rfl, _⟩ := h
    rfl
  · obtain ⟨a, xs, i, m, rfl, hS, h0, hl, hm, q⟩ := h
    refine ⟨_, ((pss_one (ps_ret (pe_op op_mod (pe_callTy Gx.cr_int1 (by rfl) T.z_int bt_int (pa_cons (pe_ix ix_list (pv 0) (pe_op op_mod (pv 1) (pe_callB Gx.cr_lenQ (by rfl) T.z_len bt_len (pa_cons (pv 0) pa_nil))) (fun _ _ => rfl)) pa_nil)) (pv 2))))), ?_⟩
    rw [st__law_pick]
    try dsimp only [cxOf]
    walk_at "g"
    have e : ((pk0 xs i.toNat m.toNat : Nat) : Int) = xs.getD i.toNat 0 % m := by
      unfold pk0
      have h1 := Int.emod_nonneg (xs.getD i.toNat 0) (b := m) (by omega)
      rw [show ((m.toNat : Nat) : Int) = m by omega]
      omega
    rw [e] at q
    rw [Int.emod_eq_of_lt h0 hl]
    exact q
end
end K15
namespace K15
open PySem PySem.Spec PyProof.Rows L2
local macro_rules | `(tactic| walk_at "con") => `(tactic| first | with_reducible refine Gx.conE K15.ks0 ?_ | with_reducible refine Gx.conE K15.ks1 ?_ | with_reducible refine Gx.conE K15.ks2 ?_ | with_reducible refine Gx.conE K15.ks3 ?_ | with_reducible refine Gx.conE K15.ks4 ?_ | with_reducible refine Gx.conE K15.ks5 ?_ | with_reducible refine Gx.conE K15.ks6 ?_ | with_reducible refine Gx.conE K15.ks7 ?_ | with_reducible refine Gx.conE K15.ks8 ?_ | with_reducible refine Gx.conE K15.ks9 ?_ | with_reducible refine Gx.conE K15.ks10 ?_ | with_reducible refine Gx.conE K15.ks11 ?_ | with_reducible refine Gx.conE K15.ks12 ?_ | with_reducible refine Gx.conE K15.ks13 ?_ | with_reducible refine Gx.conE K15.ks14 ?_ | with_reducible refine Gx.conE K15.ks15 ?_)
section
variable {P : Program} {w : World} {K : PySem.W.Frag} {mg : Str → Option Value} {base : Heap}

/-- the promise of _law_kind, to a depth below n -/
def spK (K : PySem.W.Frag) : Nat → Sp
  | 0 => fun _ _ _ _ => False
  | n + 1 => fun vs H Q _ => ∃ (x : V) (d : PyData), vs = [x] ∧ Dp K H x d ∧ Gx.okD d = true ∧ PyData.depth d ≤ n ∧ ∀ H' y, Same H H' → Dp K H' y (Gx.kindD d) → Q y H'
theorem G__law_kind (T : Txt K mg w) : ∀ n, FnOk P w K mg base CX0 n T.f__law_kind T.fd__law_kind ["value"] (spK K n)
  | 0 => ⟨fun _ _ _ _ h => h.elim, fun _ _ _ _ _ _ _ _ _ _ _ _ _ h => h.elim⟩
  | n + 1 => by
    have G__law_kind := G__law_kind T n
    refine T.F__law_kind.ok sc__law_kind (fun vs H Q E h => ?_) (fun cdv A outer s H vs Q E hr h => ?_)
    · obtain ⟨x, d, rfl, _⟩ := h
      rfl
    · obtain ⟨x, d, rfl, hx, ok, dp, q⟩ := h
      refine ⟨_, ((pss_cons (ps_if (pt_cmpR Gx.op_isNG (pv 0) pe_non (nomark _))
  (pss_one (ps_ret (pe_tup (pa_cons pe_str pa_nil))))
  pss_nil)
  (pss_cons (ps_if (pt_val (pe_callB call_isi (by rfl) T.z_isinstance bt_isinstance (pa_cons (pv 0) (pa_cons (pe_bltn (v := .ty "bool") rfl T.z_bool bt_bool rfl) pa_nil))))
  (pss_one (ps_ret (pe_tup (pa_cons pe_str (pa_cons (pe_callTy Gx.cr_strB (by rfl) T.z_str bt_str (pa_cons (pv 0) pa_nil)) pa_nil)))))
  pss_nil)
  (pss_cons (ps_if (pt_val (pe_callB call_isi (by rfl) T.z_isinstance bt_isinstance (pa_cons (pv 0) (pa_cons (pe_bltn (v := .ty "int") rfl T.z_int bt_int rfl) pa_nil))))
  (pss_one (ps_ret (pe_tup (pa_cons pe_str (pa_cons (pv 0) pa_nil)))))
  pss_nil)
  (pss_cons (ps_if (pt_val (pe_callB call_isi (by rfl) T.z_isinstance bt_isinstance (pa_cons (pv 0) (pa_cons (pe_bltn (v := .ty "str") rfl T.z_str bt_str rfl) pa_nil))))
  (pss_one (ps_ret (pe_tup (pa_cons pe_str (pa_cons (pv 0) pa_nil)))))
  pss_nil)
  (pss_cons (ps_if (pt_val (pe_callB call_isi (by rfl) T.z_isinstance bt_isinstance (pa_cons (pv 0) (pa_cons (pe_bltn (v := .ty "list") rfl T.z_list bt_list rfl) pa_nil))))
  (pss_one (ps_ret (pe_op op_catA (pe_tup (pa_cons pe_str pa_nil)) (pe_callTy Gx.cr_tupL (by rfl) T.z_tuple bt_tuple (pa_cons (pe_lc (own := [("item", 1)]) (g := (gName 1)) (tt := tYes) (by rfl) sc__law_kind.nd (pi_list (pv 0)) (blkOk_by (N := ["value", "item"]) (sc := defScope s__law_kind) (by decide +kernel)) (fun _ _ _ _ _ => (pg_name (i := 1) sc__law_kind.nd rfl (Or.inl rfl))) (fun _ _ _ _ _ => pts_nil) (fun _ _ _ _ _ => (pe_call G__law_kind (hr.mono (by first | decide | omega)) (by rfl) T.g__law_kind T.F__law_kind.kp T.b__law_kind .nil pass0 (pa_cons (pv 1) pa_nil)))) pa_nil)))))
  pss_nil)
  (pss_cons (ps_if (pt_val (pe_callB call_isi (by rfl) T.z_isinstance bt_isinstance (pa_cons (pv 0) (pa_cons (pe_bltn (v := .ty "tuple") rfl T.z_tuple bt_tuple rfl) pa_nil))))
  (pss_one (ps_ret (pe_op op_catA (pe_tup (pa_cons pe_str pa_nil)) (pe_callTy Gx.cr_tupL (by rfl) T.z_tuple bt_tuple (pa_cons (pe_lc (own := [("item", 1)]) (g := (gName 1)) (tt := tYes) (by rfl) sc__law_kind.nd (pi_tup (pv 0)) (blkOk_by (N := ["value", "item"]) (sc := defScope s__law_kind) (by decide +kernel)) (fun _ _ _ _ _ => (pg_name (i := 1) sc__law_kind.nd rfl (Or.inl rfl))) (fun _ _ _ _ _ => pts_nil) (fun _ _ _ _ _ => (pe_call G__law_kind (hr.mono (by first | decide | omega)) (by rfl) T.g__law_kind T.F__law_kind.kp T.b__law_kind .nil pass0 (pa_cons (pv 1) pa_nil)))) pa_nil)))))
  pss_nil)
  (pss_one (ps_ret (pe_tup (pa_cons pe_str pa_nil))))))))))), ?_⟩
      rw [st__law_kind]
      try dsimp only [cxOf]
      cases d with
      | none =>
        cases hx
        walk_at "g"
        refine ⟨Gx.line (by decide), fun p np => ?_⟩
        have E6 := Gx.ext1 (o := .tup [.str (Gx.mkS [110, 111, 110, 101])]) np
        exact q _ _ E6.same (.tup (SqT.of upd_same) (.cons (.str _) .nil))
      | bool b =>
        cases hx
        walk_at "g"
        refine ⟨Gx.line (by show 2 ≤ 16777216; decide), fun p np => ?_⟩
        exact q _ _ (Gx.ext1 np).same (.tup (SqT.of upd_same) (.cons (.str _) (.cons (.str _) .nil)))
      | int i =>
        cases hx
        walk_at "g"
        refine ⟨Gx.line (by show 2 ≤ 16777216; decide), fun p np => ?_⟩
        exact q _ _ (Gx.ext1 np).same (.tup (SqT.of upd_same) (.cons (.str _) (.cons (.int _) .nil)))
      | str z =>
        cases hx
        walk_at "g"
        refine ⟨Gx.line (by show 2 ≤ 16777216; decide), fun p np => ?_⟩
        exact q _ _ (Gx.ext1 np).same (.tup (SqT.of upd_same) (.cons (.str _) (.cons (.str _) .nil)))
      | list ds =>
        cases hx with
        | @lst a xs _ hs ha =>
          have ok' : ds.length ≤ 100000 ∧ Gx.okDs ds = true := by simpa [Gx.okD] using ok
          have hl := Gx.dpAll_len ha
          rw [PyData.depth] at dp
          walk_at "g"
          refine ⟨Gx.line (by decide), fun p np => ?_⟩
          have E1 := Gx.ext1 (o := .tup [.str (Gx.mkS [108, 105, 115, 116])]) np
          generalize upd H p (.tup [.str (Gx.mkS [108, 105, 115, 116])]) = H1 at E1 ⊢
          have hs1 := E1.same.seq hs
          walk_at "g"
          refine ⟨⟨_, hs1⟩, fun D nD => lc_list (K := K) (a := a) (xs := xs) (fun i H2 => Same H1 H2 ∧ ∃ ys, H2 D = some (.lst ys) ∧ DpAll K H2 ys (Gx.kindAll (ds.take i)))
            ⟨Gx.Same.put (Same.refl H1) nD, [], upd_same, by rw [List.take_zero]; exact .nil⟩ (fun i H2 _ ⟨s2, _⟩ => s2.seq hs1) ?_ ?_⟩
          · rintro i x H2 hi ⟨s2, ys, e2, d2⟩
            obtain ⟨d, hd, dx⟩ := Gx.dpAll_get (Gx.dpAll_same (E1.same.trans s2) ds _ ha) hi
            obtain ⟨m, rfl⟩ : ∃ m, n = m + 1 := ⟨n - 1, by omega⟩
            have hil : i < ds.length := (List.getElem?_eq_some_iff.mp hd).1
            walk_at "g"
            refine ⟨rfl, ?_⟩
            walk_at "g"
            refine ⟨x, d, rfl, dx, Gx.okDs_get ok'.2 hd, by have := Gx.depth_get hd; omega, fun H3 y s3 dy => ?_⟩
            refine ⟨ys, s3 _ _ e2, Gx.lineL (by rw [Gx.dpAll_len d2, Gx.kindAll_len, List.length_take]; omega), Gx.Same.put (s2.trans s3) nD, ys ++ [y], upd_same, ?_⟩
            rw [List.take_add_one, hd, Option.toList_some, Gx.kindAll_app]
            refine Gx.dpAll_app (Gx.dpAll_tups (Gx.Tups.upd (s3 _ _ e2)) _ _ (Gx.noLs_kind _) (Gx.dpAll_same s3 _ _ d2)) (.cons (Gx.dp_tups (Gx.Tups.upd (s3 _ _ e2)) _ _ (Gx.noL_kind d) dy) .nil)
          · rintro H2 ⟨s2, ys, e2, d2⟩
            rw [hl, List.take_length] at d2
            walk_at "g"
            refine Gx.tupL (SqL.of e2) (fun t nt => ?_)
            have E3 := Gx.ext1 (o := .tup ys) nt
            generalize upd H2 t (.tup ys) = H3 at E3 ⊢
            walk_at "g"
            refine Gx.catA (SqT.of (E3.same _ _ (s2 _ _ E1.at_))) (SqT.of E3.at_) (by rw [Gx.dpAll_len d2, Gx.kindAll_len]; show 1 + _ ≤ _; omega) (fun r H4 s4 hr => ?_)
            exact q _ _ (((E1.same.trans s2).trans E3.same).trans s4) (.tup hr (.cons (.str _) (Gx.dpAll_same (E3.same.trans s4) _ _ d2)))
      | tuple ds =>
        cases hx with
        | @tup a xs _ hs ha =>
          have ok' : ds.length ≤ 100000 ∧ Gx.okDs ds = true := by simpa [Gx.okD] using ok
          have hl := Gx.dpAll_len ha
          rw [PyData.depth] at dp
          walk_at "g"
          refine ⟨Gx.line (by decide), fun p np => ?_⟩
          have E1 := Gx.ext1 (o := .tup [.str (Gx.mkS [116, 117, 112, 108, 101])]) np
          generalize upd H p (.tup [.str (Gx.mkS [116, 117, 112, 108, 101])]) = H1 at E1 ⊢
          have hs1 := E1.same.seqT hs
          walk_at "g"
          refine ⟨⟨_, hs1⟩, fun D nD => lc_tup (K := K) (a := a) (xs := xs) (fun i H2 => Same H1 H2 ∧ ∃ ys, H2 D = some (.lst ys) ∧ DpAll K H2 ys (Gx.kindAll (ds.take i)))
            ⟨Gx.Same.put (Same.refl H1) nD, [], upd_same, by rw [List.take_zero]; exact .nil⟩ (fun i H2 _ ⟨s2, _⟩ => s2.seqT hs1) ?_ ?_⟩
          · rintro i x H2 hi ⟨s2, ys, e2, d2⟩
            obtain ⟨d, hd, dx⟩ := Gx.dpAll_get (Gx.dpAll_same (E1.same.trans s2) ds _ ha) hi
            obtain ⟨m, rfl⟩ : ∃ m, n = m + 1 := ⟨n - 1, by omega⟩
            have hil : i < ds.length := (List.getElem?_eq_some_iff.mp hd).1
            walk_at "g"
            refine ⟨rfl, ?_⟩
            walk_at "g"
            refine ⟨x, d, rfl, dx, Gx.okDs_get ok'.2 hd, by have := Gx.depth_get hd; omega, fun H3 y s3 dy => ?_⟩
            refine ⟨ys, s3 _ _ e2, Gx.lineL (by rw [Gx.dpAll_len d2, Gx.kindAll_len, List.length_take]; omega), Gx.Same.put (s2.trans s3) nD, ys ++ [y], upd_same, ?_⟩
            rw [List.take_add_one, hd, Option.toList_some, Gx.kindAll_app]
            refine Gx.dpAll_app (Gx.dpAll_tups (Gx.Tups.upd (s3 _ _ e2)) _ _ (Gx.noLs_kind _) (Gx.dpAll_same s3 _ _ d2)) (.cons (Gx.dp_tups (Gx.Tups.upd (s3 _ _ e2)) _ _ (Gx.noL_kind d) dy) .nil)
          · rintro H2 ⟨s2, ys, e2, d2⟩
            rw [hl, List.take_length] at d2
            walk_at "g"
            refine Gx.tupL (SqL.of e2) (fun t nt => ?_)
            have E3 := Gx.ext1 (o := .tup ys) nt
            generalize upd H2 t (.tup ys) = H3 at E3 ⊢
            walk_at "g"
            refine Gx.catA (SqT.of (E3.same _ _ (s2 _ _ E1.at_))) (SqT.of E3.at_) (by rw [Gx.dpAll_len d2, Gx.kindAll_len]; show 1 + _ ≤ _; omega) (fun r H4 s4 hr => ?_)
            exact q _ _ (((E1.same.trans s2).trans E3.same).trans s4) (.tup hr (.cons (.str _) (Gx.dpAll_same (E3.same.trans s4) _ _ d2)))
      | dict _ => cases hx
def sp_same (K : PySem.W.Frag) : Sp := fun vs H Q _ => ∃ (x y : V) (d : PyData), vs = [x, y] ∧ Dp K H x d ∧ Dp K H y d ∧ Gx.okD d = true ∧ PyData.depth d ≤ 60 ∧ ∀ H', Same H H' → Q (.bl true) H'
theorem G__law_same (T : Txt K mg w) : FnOk P w K mg base CX0 62 T.f__law_same T.fd__law_same ["answer", "due"] (sp_same K) := by
  have G__law_kind := G__law_kind (P := P) (w := w) (base := base) T 61
  refine T.F__law_same.ok sc__law_same (fun vs H Q E h => ?_) (fun cdv A outer s H vs Q E hr h => ?_)
  · obtain ⟨x, y, d, rfl, _⟩ := h
    rfl
  · obtain ⟨x, y, d, rfl, hx, hy, ok, dp, q⟩ := h
    refine ⟨_, ((pss_one (ps_ret (pe_cmpR (op_eqD hr.units) (pe_call G__law_kind (hr.mono (by first | decide | omega)) (by rfl) T.g__law_kind T.F__law_kind.kp T.b__law_kind .nil pass0 (pa_cons (pv 0) pa_nil)) (pe_call G__law_kind (hr.mono (by first | decide | omega)) (by rfl) T.g__law_kind T.F__law_kind.kp T.b__law_kind .nil pass0 (pa_cons (pv 1) pa_nil)) (nomark _))))), ?_⟩
    rw [st__law_same]
    try dsimp only [cxOf]
    walk_at "g"
    refine ⟨x, d, rfl, hx, ok, dp, fun H1 u s1 du => ?_⟩
    walk_at "g"
    refine ⟨y, d, rfl, Gx.dp_same s1 d _ hy, ok, dp, fun H2 v s2 dv => ?_⟩
    refine ⟨_, _, Gx.dp_same s2 _ _ du, dv, Gx.shaped_kind ok (by omega), Gx.shaped_kind ok (by omega), ?_⟩
    rw [Gx.eqv_kind ok]
    exact q H2 (s1.trans s2)
end
end K15
namespace K15
open PySem PySem.Spec PyProof.Rows L2
local macro_rules | `(tactic| walk_at "con") => `(tactic| first | with_reducible refine Gx.conE K15.ks0 ?_ | with_reducible refine Gx.conE K15.ks1 ?_ | with_reducible refine Gx.conE K15.ks2 ?_ | with_reducible refine Gx.conE K15.ks3 ?_ | with_reducible refine Gx.conE K15.ks4 ?_ | with_reducible refine Gx.conE K15.ks5 ?_ | with_reducible refine Gx.conE K15.ks6 ?_ | with_reducible refine Gx.conE K15.ks7 ?_ | with_reducible refine Gx.conE K15.ks8 ?_ | with_reducible refine Gx.conE K15.ks9 ?_ | with_reducible refine Gx.conE K15.ks10 ?_ | with_reducible refine Gx.conE K15.ks11 ?_ | with_reducible refine Gx.conE K15.ks12 ?_ | with_reducible refine Gx.conE K15.ks13 ?_ | with_reducible refine Gx.conE K15.ks14 ?_ | with_reducible refine Gx.conE K15.ks15 ?_)
section
variable {P : Program} {w : World} {K : PySem.W.Frag} {mg : Str → Option Value} {base : Heap}
/-! ### what is known of a least machine -/
inductive RchM (R : List (List Nat)) : Nat → Prop
  | base : RchM R 0
  | step {a b : Nat} : RchM R a → b ∈ R.getD a [] → RchM R b
structure MF (R : List (List Nat)) (F : List Bool) : Prop where
  five : Five R
  fl : F.length = R.length
  reach : ∀ s, s < R.length → RchM R s
  uniq : ∀ rel, Bis R F rel → ∀ s t, s < R.length → t < R.length → rel s t → s = t
theorem bfs_from {rows : List (List Nat)} {mk : Nat → Nat} {s0 n : Nat} {pk : List Nat} (b : Bfs rows mk s0 n pk) : ∀ i, 0 < i → i < pk.length → ∃ j, j < i ∧ j < n ∧ ∃ t ∈ rows.getD (pk.getD j 0) [], pk.getD i 0 = t := by
  induction b with
  | start => intro i h0 h1; simp at h1; omega
  | @step at_ pk s b e ih =>
    have hat := (List.getElem?_eq_some_iff.mp e).1
    have es : pk.getD at_ 0 = s := by rw [List.getD_eq_getElem?_getD, e]; rfl
    -- the picks made on the way
    have key : ∀ (l : List Nat), (∀ t ∈ l, t ∈ rows.getD s []) → ∀ (pk' : List Nat), (∃ z, pk' = pk ++ z) → (∀ i, 0 < i → i < pk'.length → ∃ j, j < i ∧ j < at_ + 1 ∧ ∃ t ∈ rows.getD (pk'.getD j 0) [], pk'.getD i 0 = t) →
        ∀ i, 0 < i → i < (l.foldl (pick1 mk) pk').length → ∃ j, j < i ∧ j < at_ + 1 ∧ ∃ t ∈ rows.getD ((l.foldl (pick1 mk) pk').getD j 0) [], (l.foldl (pick1 mk) pk').getD i 0 = t := by
      intro l
      induction l with
      | nil => exact fun _ pk' _ h => h
      | cons t l ihl =>
        intro hl pk' hz h
        rw [List.foldl_cons]
        obtain ⟨z, rfl⟩ := hz
        have h2 : pick1 mk (pk ++ z) t = pk ++ z ∨ pick1 mk (pk ++ z) t = pk ++ z ++ [t] := by
          unfold pick1
          split
          · exact .inl rfl
          · exact .inr rfl
        rcases h2 with h2 | h2
        · rw [h2]
          exact ihl (fun t ht => hl t (List.mem_cons_of_mem _ ht)) _ ⟨z, rfl⟩ h
        · rw [h2]
          refine ihl (fun t ht => hl t (List.mem_cons_of_mem _ ht)) _ ⟨z ++ [t], by rw [List.append_assoc]⟩ fun i h0 hi => ?_
          have gd : ∀ j, j < (pk ++ z).length → (pk ++ z ++ [t]).getD j 0 = (pk ++ z).getD j 0 := fun j hj => by
            rw [List.getD_eq_getElem?_getD, List.getD_eq_getElem?_getD, List.getElem?_append_left hj]
          rw [List.length_append, List.length_singleton] at hi
          by_cases hlt : i < (pk ++ z).length
          · obtain ⟨j, a1, a2, x, a3, a4⟩ := h i h0 hlt
            refine ⟨j, a1, a2, x, ?_, ?_⟩
            · rw [gd j (by omega)]; exact a3
            · rw [gd i hlt]; exact a4
          · have hi' : i = (pk ++ z).length := by omega
            have hat' : at_ < (pk ++ z).length := by rw [List.length_append]; omega
            refine ⟨at_, by omega, by omega, t, ?_, ?_⟩
            · rw [gd at_ hat']
              have : (pk ++ z).getD at_ 0 = s := by
                rw [List.getD_eq_getElem?_getD, List.getElem?_append_left hat, e]
                rfl
              rw [this]
              exact hl t List.mem_cons_self
            · rw [hi', List.getD_eq_getElem?_getD, List.getElem?_append_right (Nat.le_refl _), Nat.sub_self]
              rfl
    refine key _ (fun t ht => ht) pk ⟨[], (List.append_nil _).symm⟩ fun i h0 hi => ?_
    obtain ⟨j, a1, a2, a3⟩ := ih i h0 hi
    exact ⟨j, a1, by omega, a3⟩
theorem idx_map {mk : Nat → Nat} {pk : List Nat} (nd : (pk.map mk).Nodup) {i : Nat} (hi : i < pk.length) : (pk.map mk).idxOf (mk (pk.getD i 0)) = i := by
  have hi' : i < (pk.map mk).length := by rw [List.length_map]; exact hi
  have e : mk (pk.getD i 0) = (pk.map mk)[i] := by
    rw [List.getElem_map, List.getD_eq_getElem?_getD, List.getElem?_eq_getElem hi]
    rfl
  rw [e]
  exact nd.idxOf_getElem i hi'
theorem idx_back {mk : Nat → Nat} {pk : List Nat} {x : Nat} (h : (pk.map mk).idxOf x < (pk.map mk).length) : mk (pk.getD ((pk.map mk).idxOf x) 0) = x := by
  have h' : (pk.map mk).idxOf x < pk.length := by rw [List.length_map] at h; exact h
  have e : (pk.map mk)[(pk.map mk).idxOf x] = mk (pk[(pk.map mk).idxOf x]) := List.getElem_map ..
  rw [List.getD_eq_getElem?_getD, List.getElem?_eq_getElem h']
  exact e.symm.trans (List.getElem_idxOf h)
theorem MF.of {rows : List (List Nat)} {fin : List Bool} {o : List Nat} {mk : Nat → Nat} {pk : List Nat} (five : Five rows) (L : LeastOf rows fin o mk pk) : MF (lRows rows mk pk) (lFins fin pk) := by
  obtain ⟨f5, fl⟩ := LeastOf.five five L
  obtain ⟨cl, co, bf, sub, nd⟩ := L
  have hl : (lRows rows mk pk).length = pk.length := by unfold lRows; rw [List.length_map]
  have row : ∀ i, i < pk.length → (lRows rows mk pk).getD i [] = newRow mk pk (rows.getD (pk.getD i 0) []) := fun i hi => by
    unfold lRows
    have g : pk.getD i 0 = pk[i] := by rw [List.getD_eq_getElem?_getD, List.getElem?_eq_getElem hi]; rfl
    rw [List.getD_eq_getElem?_getD, List.getElem?_map, List.getElem?_eq_getElem hi, g]
    rfl
  have fn : ∀ i, i < pk.length → (lFins fin pk).getD i false = fin.getD (pk.getD i 0) false := fun i hi => by
    unfold lFins
    have g : pk.getD i 0 = pk[i] := by rw [List.getD_eq_getElem?_getD, List.getElem?_eq_getElem hi]; rfl
    rw [List.getD_eq_getElem?_getD, List.getElem?_map, List.getElem?_eq_getElem hi, g]
    rfl
  have pm : ∀ i, i < pk.length → pk.getD i 0 ∈ pk := fun i hi => by
    rw [List.getD_eq_getElem?_getD, List.getElem?_eq_getElem hi]
    exact List.getElem_mem hi
  refine ⟨f5, fl, ?_, ?_⟩
  · intro s hs
    rw [hl] at hs
    induction s using Nat.strongRecOn with
    | _ s ih =>
      by_cases h0 : s = 0
      · subst h0; exact .base
      · obtain ⟨j, h1, _, t, ht, e⟩ := bfs_from bf s (by omega) hs
        refine .step (ih j h1 (by omega)) ?_
        rw [row j (by omega)]
        unfold newRow
        refine List.mem_map.mpr ⟨t, ht, ?_⟩
        rw [← e]
        exact idx_map nd hs
  · intro rel hb s t hs ht hr
    rw [hl] at hs ht
    have tk := bfs_tk bf
    rw [List.take_length] at tk
    -- the relation on the states themselves
    have hB : Bis rows fin (fun a b => ∃ i j, i < pk.length ∧ j < pk.length ∧ a ∈ o ∧ b ∈ o ∧ mk a = mk (pk.getD i 0) ∧ mk b = mk (pk.getD j 0) ∧ rel i j) := by
      rintro a b ⟨i, j, hi, hj, ha, hb', ea, eb, r⟩
      obtain ⟨g1, g2, g3⟩ := hb i j r
      obtain ⟨ca1, ca2⟩ := co.1 a ha _ (sub _ (pm i hi)) ea
      obtain ⟨cb1, cb2⟩ := co.1 b hb' _ (sub _ (pm j hj)) eb
      rw [fn i hi, fn j hj] at g1
      have la := (five.2 a (cl.2.1 _ ha)).1
      have lb := (five.2 b (cl.2.1 _ hb')).1
      refine ⟨by rw [ca1, cb1, g1], by rw [la, lb], fun k hk => ?_⟩
      rw [la] at hk
      have lp := (five.2 _ (cl.2.1 _ (sub _ (pm i hi)))).1
      have lq := (five.2 _ (cl.2.1 _ (sub _ (pm j hj)))).1
      rw [row i hi, row j hj] at g3
      have ga := g3 k (by unfold newRow; rw [List.length_map, lp]; exact hk)
      unfold newRow at ga
      rw [getD_map_lt (by rw [lp]; exact hk), getD_map_lt (by rw [lq]; exact hk)] at ga
      have ma : (rows.getD a []).getD k 0 ∈ rows.getD a [] := mem_getD (by rw [la]; exact hk)
      have mb : (rows.getD b []).getD k 0 ∈ rows.getD b [] := mem_getD (by rw [lb]; exact hk)
      have mp : (rows.getD (pk.getD i 0) []).getD k 0 ∈ rows.getD (pk.getD i 0) [] := mem_getD (by rw [lp]; exact hk)
      have mq : (rows.getD (pk.getD j 0) []).getD k 0 ∈ rows.getD (pk.getD j 0) [] := mem_getD (by rw [lq]; exact hk)
      have ka : mk ((rows.getD a []).getD k 0) = mk ((rows.getD (pk.getD i 0) []).getD k 0) := by
        have := congrArg (fun l : List Nat => l.getD k 0) ca2
        try dsimp only at this
        rwa [getD_map_lt (by rw [la]; exact hk), getD_map_lt (by rw [lp]; exact hk)] at this
      have kb : mk ((rows.getD b []).getD k 0) = mk ((rows.getD (pk.getD j 0) []).getD k 0) := by
        have := congrArg (fun l : List Nat => l.getD k 0) cb2
        try dsimp only at this
        rwa [getD_map_lt (by rw [lb]; exact hk), getD_map_lt (by rw [lq]; exact hk)] at this
      have tp := tk _ (pm i hi) _ mp
      have tq := tk _ (pm j hj) _ mq
      have ip := List.idxOf_lt_length_of_mem tp
      have iq := List.idxOf_lt_length_of_mem tq
      have ep : mk (pk.getD ((pk.map mk).idxOf (mk ((rows.getD (pk.getD i 0) []).getD k 0))) 0) = mk ((rows.getD (pk.getD i 0) []).getD k 0) := by
        exact idx_back ip
      have eq : mk (pk.getD ((pk.map mk).idxOf (mk ((rows.getD (pk.getD j 0) []).getD k 0))) 0) = mk ((rows.getD (pk.getD j 0) []).getD k 0) := by
        exact idx_back iq
      rw [List.length_map] at ip iq
      exact ⟨_, _, ip, iq, cl.2.2.2 a ha _ ma, cl.2.2.2 b hb' _ mb, by rw [ep]; exact ka, by rw [eq]; exact kb, ga⟩
    have := co.2 _ hB _ (sub _ (pm s hs)) _ (sub _ (pm t ht)) ⟨s, t, hs, ht, sub _ (pm s hs), sub _ (pm t ht), rfl, rfl, hr⟩
    have h2 := congrArg (fun x => (pk.map mk).idxOf x) this
    try dsimp only at h2
    rwa [idx_map nd hs, idx_map nd ht] at h2
/-! ### live states, the dead one, the equations at the start -/
def DeadAt (R : List (List Nat)) (F : List Bool) (s : Nat) : Prop := F.getD s false = false ∧ R.getD s [] = [s, s, s, s, s]
inductive Liv (R : List (List Nat)) (F : List Bool) : Nat → Prop
  | fin {s : Nat} : F.getD s false = true → Liv R F s
  | step {s t : Nat} : t ∈ R.getD s [] → Liv R F t → Liv R F s
theorem dead_not {R : List (List Nat)} {F : List Bool} {s : Nat} (h : DeadAt R F s) : ¬ Liv R F s := fun l => by
  have key : ∀ x, Liv R F x → x = s → False := fun x l => by
    induction l with
    | fin e => intro z; subst z; rw [h.1] at e; cases e
    | @step a b m _ ih =>
      intro z
      subst z
      rw [h.2] at m
      refine ih ?_
      simpa using m
  exact key s l rfl
theorem five_same {l : List Nat} {s : Nat} (h : l.length = 5) (e : ∀ t ∈ l, t = s) : l = [s, s, s, s, s] := by
  match l, h with
  | [a, b, c, d, f], _ =>
    rw [e a (by simp), e b (by simp), e c (by simp), e d (by simp), e f (by simp)]
section
variable {R : List (List Nat)} {F : List Bool}
theorem MF.bis (m : MF R F) : Bis R F (fun a b => a < R.length ∧ b < R.length ∧ ¬ Liv R F a ∧ ¬ Liv R F b) := by
  rintro a b ⟨ha, hb, la, lb⟩
  have fa : F.getD a false = false := by
    cases e : F.getD a false with
    | false => rfl
    | true => exact absurd (.fin e) la
  have fb : F.getD b false = false := by
    cases e : F.getD b false with
    | false => rfl
    | true => exact absurd (.fin e) lb
  obtain ⟨a1, a2⟩ := m.five.2 a ha
  obtain ⟨b1, b2⟩ := m.five.2 b hb
  refine ⟨by rw [fa, fb], by rw [a1, b1], fun k hk => ?_⟩
  have ma : (R.getD a []).getD k 0 ∈ R.getD a [] := mem_getD hk
  have mb : (R.getD b []).getD k 0 ∈ R.getD b [] := mem_getD (by rw [b1, ← a1]; exact hk)
  exact ⟨a2 _ ma, b2 _ mb, fun l => la (.step ma l), fun l => lb (.step mb l)⟩
theorem MF.dead (m : MF R F) {s : Nat} (hs : s < R.length) (h : ¬ Liv R F s) : DeadAt R F s := by
  obtain ⟨a1, a2⟩ := m.five.2 s hs
  refine ⟨?_, five_same a1 fun t ht => ?_⟩
  · cases e : F.getD s false with
    | false => rfl
    | true => exact absurd (.fin e) h
  · exact (m.uniq _ m.bis s t hs (a2 t ht) ⟨hs, a2 t ht, h, fun l => h (.step ht l)⟩).symm
theorem MF.one_dead (m : MF R F) {s t : Nat} (hs : s < R.length) (ht : t < R.length) (h : DeadAt R F s) (g : DeadAt R F t) : s = t := m.uniq _ m.bis s t hs ht ⟨hs, ht, dead_not h, dead_not g⟩
def sg5 (k : Nat) : Nat := ([58, 59, 97, 98, 99] : List Nat).getD k 0
/-- the signs among the first i that lead from s to t -/
def sgnI (R : List (List Nat)) (s : Nat) (i : Nat) (t : Int) : List Nat := ((List.range i).filter fun k => decide (((mv R s k : Nat) : Int) = t)).map sg5
theorem sgnI_succ (R : List (List Nat)) (s i : Nat) (t : Int) : sgnI R s (i + 1) t = sgnI R s i t ++ (if ((mv R s i : Nat) : Int) = t then [sg5 i] else []) := by
  unfold sgnI
  rw [List.range_succ, List.filter_append, List.map_append]
  congr 1
  by_cases h : ((mv R s i : Nat) : Int) = t
  · rw [if_pos h, List.filter_cons_of_pos (p := fun k => decide (((mv R s k : Nat) : Int) = t)) (decide_eq_true h)]
    rfl
  · rw [if_neg h, List.filter_cons_of_neg (p := fun k => decide (((mv R s k : Nat) : Int) = t)) (by rw [decide_eq_false h]; decide)]
    rfl
theorem sgnI_cp (R : List (List Nat)) (s i : Nat) (t : Int) (hi : i ≤ 5) : Gx.Cp (sgnI R s i t) := by
  intro c hc
  unfold sgnI at hc
  obtain ⟨k, hk, rfl⟩ := List.mem_map.mp hc
  have := List.mem_range.mp (List.mem_filter.mp hk).1
  have h : ∀ k < 5, sg5 k < 1114112 := by decide
  exact h k (by omega)
theorem sgnI_ne {R : List (List Nat)} {s : Nat} {t : Int} (h : sgnI R s 5 t ≠ []) : ∃ k, k < 5 ∧ ((mv R s k : Nat) : Int) = t := by
  unfold sgnI at h
  obtain ⟨k, hk⟩ := List.exists_mem_of_ne_nil _ h
  obtain ⟨k', hk', _⟩ := List.mem_map.mp hk
  obtain ⟨h1, h2⟩ := List.mem_filter.mp hk'
  exact ⟨k', List.mem_range.mp h1, by simpa using h2⟩
theorem sgnI_of {R : List (List Nat)} {s k : Nat} (hk : k < 5) : sgnI R s 5 ((mv R s k : Nat) : Int) ≠ [] := by
  intro z
  unfold sgnI at z
  rw [List.map_eq_nil_iff, List.filter_eq_nil_iff] at z
  exact z k (List.mem_range.mpr hk) (by simp)
/-- the equation of s, dd the dead state or -1 -/
def eqn0 (R : List (List Nat)) (F : List Bool) (dd : Int) (s : Nat) : Eqn := fun t => if t = -1 then (if F.getD s false = true then some .e else none) else if t ≠ dd ∧ sgnI R s 5 t ≠ [] then some (.one (sgnI R s 5 t)) else none
def DeadI (R : List (List Nat)) (F : List Bool) (dd : Int) : Prop := (dd = -1 ∧ ∀ s, s < R.length → ¬ DeadAt R F s) ∨ ∃ d, d < R.length ∧ dd = (d : Int) ∧ DeadAt R F d
theorem eqn0_edge (m : MF R F) {dd : Int} (hd : DeadI R F dd) {a b : Nat} (ha : a < R.length) (hb : b ∈ R.getD a []) (lb : Liv R F b) : (eqn0 R F dd a (b : Int)).isSome := by
  obtain ⟨k, hk, e⟩ := List.mem_iff_getElem.mp hb
  rw [(m.five.2 a ha).1] at hk
  have em : mv R a k = b := by
    unfold mv
    rw [List.getD_eq_getElem?_getD, List.getElem?_eq_getElem (by rw [(m.five.2 a ha).1]; exact hk)]
    exact e
  have hne : (b : Int) ≠ dd := fun z => by
    rcases hd with ⟨h1, _⟩ | ⟨d, _, h2, h3⟩
    · omega
    · have : b = d := by omega
      subst this
      exact dead_not h3 lb
  have hs := sgnI_of (R := R) (s := a) hk
  rw [em] at hs
  unfold eqn0
  rw [if_neg (by omega), if_pos ⟨hne, hs⟩]
  rfl
theorem start_of (m : MF R F) {dd : Int} (hd : DeadI R F dd) : Start (eqn0 R F dd) R.length (fun s => (s : Int) = dd) := by
  have live : ∀ s, s < R.length → ¬ ((s : Int) = dd) → Liv R F s := fun s hs hne => Classical.byContradiction fun z => by
    have ds := m.dead hs z
    rcases hd with ⟨_, h⟩ | ⟨d, h1, h2, h3⟩
    · exact h s hs ds
    · have := m.one_dead hs h1 ds h3
      omega
  refine ⟨fun e he t p hp => ?_, fun d hdd => ?_, fun s hs hne => ?_⟩
  · have hn := m.five.1
    unfold eqn0 at hp
    split at hp
    · omega
    · split at hp
      · rename_i h1 h2
        obtain ⟨k, hk, e2⟩ := sgnI_ne h2.2
        have := m.five.mv_lt (s := e) (k := k) (by omega) hk
        omega
      · cases hp
  · have hd' : d < R.length ∧ DeadAt R F d := by
      rcases hd with ⟨h, _⟩ | ⟨d', h1, h2, h3⟩
      · omega
      · have : d = d' := by omega
        subst this
        exact ⟨h1, h3⟩
    refine ⟨fun t => ?_, fun e => ?_⟩
    · unfold eqn0
      split
      · rw [hd'.2.1]
        rfl
      · rw [if_neg]
        rintro ⟨h1, h2⟩
        obtain ⟨k, hk, e2⟩ := sgnI_ne h2
        have : mv R d k = d := by
          unfold mv
          rw [hd'.2.2]
          match k, hk with
          | 0, _ => rfl
          | 1, _ => rfl
          | 2, _ => rfl
          | 3, _ => rfl
          | 4, _ => rfl
        omega
    · unfold eqn0
      rw [if_neg (by omega), if_neg (fun z => z.1 hdd)]
  · have ls := live s hs hne
    constructor
    · have key : ∀ x, RchM R x → x < R.length ∧ (Liv R F x → Rch (eqn0 R F dd) x) := fun x r => by
        induction r with
        | base => exact ⟨m.five.1, fun _ => .base⟩
        | @step a b _ hb ih =>
          exact ⟨(m.five.2 a ih.1).2 b hb, fun lb => .step (ih.2 (.step hb lb)) (eqn0_edge m hd ih.1 hb lb)⟩
      exact (key s (m.reach s hs)).2 ls
    · have key : ∀ x, Liv R F x → x < R.length → Cor (eqn0 R F dd) x := fun x l => by
        induction l with
        | fin e =>
          intro _
          refine .base ?_
          unfold eqn0
          rw [if_pos rfl, if_pos e]
          rfl
        | @step a b hb lb ih =>
          intro ha
          exact .step (eqn0_edge m hd ha hb lb) (ih ((m.five.2 a ha).2 b hb))
      exact key s ls hs
end
end
end K15
namespace K15
open PySem PySem.Spec PyProof.Rows L2
local macro_rules | `(tactic| walk_at "con") => `(tactic| first | with_reducible refine Gx.conE K15.ks0 ?_ | with_reducible refine Gx.conE K15.ks1 ?_ | with_reducible refine Gx.conE K15.ks2 ?_ | with_reducible refine Gx.conE K15.ks3 ?_ | with_reducible refine Gx.conE K15.ks4 ?_ | with_reducible refine Gx.conE K15.ks5 ?_ | with_reducible refine Gx.conE K15.ks6 ?_ | with_reducible refine Gx.conE K15.ks7 ?_ | with_reducible refine Gx.conE K15.ks8 ?_ | with_reducible refine Gx.conE K15.ks9 ?_ | with_reducible refine Gx.conE K15.ks10 ?_ | with_reducible refine Gx.conE K15.ks11 ?_ | with_reducible refine Gx.conE K15.ks12 ?_ | with_reducible refine Gx.conE K15.ks13 ?_ | with_reducible refine Gx.conE K15.ks14 ?_ | with_reducible refine Gx.conE K15.ks15 ?_)
section
variable {P : Program} {w : World} {K : PySem.W.Frag} {mg : Str → Option Value} {base : Heap}
theorem rows_getD {K : PySem.W.Frag} {H : Hp} {xs : List V} : ∀ {R : List (List Nat)} {i : Nat} {row : List Nat}, DpAll K H xs (R.map rowD) → R[i]? = some row → ∃ x, xs[i]? = some x ∧ Dp K H x (rowD row) := by
  induction xs with
  | nil =>
    intro R i row h e
    cases R with
    | nil => cases e
    | cons _ _ => cases h
  | cons x xs ih =>
    intro R i row h e
    cases R with
    | nil => cases e
    | cons r0 R =>
      cases h with
      | cons a t =>
        cases i with
        | zero =>
          cases e
          exact ⟨x, rfl, a⟩
        | succ i => exact ih t (by simpa using e)
theorem shaped_rowD (l : List Nat) : SeqAt.shaped (rowD l) = true := by
  unfold SeqAt.shaped rowD
  rw [PyData.canLay0, can_ints, Bool.true_and]
  refine decide_eq_true ?_
  simp only [PyData.depth, dep_ints]
  omega
theorem iget {α : Type} {l : List α} {i : Nat} {d : α} (h : i < l.length) : l[i]? = some (l.getD i d) := by
  rw [List.getD_eq_getElem?_getD, List.getElem?_eq_getElem h]
  rfl
def sp_dead (K : PySem.W.Frag) (C : Addr) : Sp := fun vs H Q _ => ∃ (p : Addr) (R : List (List Nat)) (F : List Bool), vs = [.ref p] ∧ MachAt K C H p R F ∧ Five R ∧ F.length = R.length ∧ R.length ≤ 1000 ∧ ∀ (dd : Int) H', Same H H' → DeadI R F dd → Q (.int dd) H'
theorem G_dead_state (T : Txt K mg w) : FnOk P w K mg base CX0 1 T.f_dead_state T.fd_dead_state ["machine"] (sp_dead K T.a_Machine) := by
  refine T.F_dead_state.ok sc_dead_state (fun vs H Q E h => ?_) (fun cdv A outer s H vs Q E hr h => ?_)
  · obtain ⟨p, R, F, rfl, _⟩ := h
    rfl
  · obtain ⟨p, R, F, rfl, ⟨dx, x, y, hp, d1, d2⟩, five, hF, hR, q⟩ := h
    obtain ⟨r, xs, rfl, hx, hd⟩ := rowsD_at d1
    obtain ⟨f, rfl, hf⟩ := finsD_at d2
    have hxl : xs.length = R.length := by rw [Gx.dpAll_len hd, List.length_map]
    refine ⟨_, ((pss_cons (ps_for PassesOwn.never rfl (pi_range1 rfl T.z_range (pa_cons (pe_callB Gx.cr_lenQ (by rfl) T.z_len bt_len (pa_cons (pe_fld (pv 0) rfl) pa_nil)) pa_nil)) (pg_name (i := 1) sc_dead_state.nd rfl (Or.inl rfl))
  (pss_one (ps_if (PW.pt (pw_and (pt_not (pt_truth (pe_ix ix_tup (pe_fld (pv 0) rfl) (pv 1) (fun _ _ => rfl)) (by intro _; rfl))) (pw_and1 (pt_cmpR (op_eqD hr.units) (pe_ix ix_tup (pe_fld (pv 0) rfl) (pv 1) (fun _ _ => rfl)) (pe_tup (pa_cons (pv 1) (pa_cons (pv 1) (pa_cons (pv 1) (pa_cons (pv 1) (pa_cons (pv 1) pa_nil)))))) (nomark _)))))
  (pss_one (ps_ret (pv 1)))
  pss_nil)))
  (pss_one (ps_ret (pe_un un_neg pe_int))))), ?_⟩
    rw [st_dead_state]
    try dsimp only [cxOf]
    walk_at "g"
    refine ⟨p, T.a_Machine, dx, _, _, rfl, hp, T.c_Machine, T.n_Machine_rows, lk_rows _ _, ?_⟩
    walk_at "g"
    rw [hxl]
    refine ⟨_, rfl, by omega, by omega, for_range (lo := 0) (n := (((R.length : Nat) : Int)).toNat) (fun i σ H' => Same H H' ∧ (∀ s, s < i → ¬ DeadAt R F s) ∧ ∃ y1 : Option V, σ = [some (.ref p), y1]) ⟨Same.refl H, (fun s h => by omega), none, rfl⟩ ?_ ?_⟩
    · rintro i σ H' hi ⟨sm, hn, y1, rfl⟩
      have hi' : i < R.length := by omega
      walk_at "g"
      refine ⟨p, T.a_Machine, dx, _, _, rfl, sm _ _ hp, T.c_Machine, T.n_Machine_finals, lk_finals _ _, ?_⟩
      walk_at "g"
      refine Gx.ixT (sm.seqT hf) (Gx.atI_of (k := i) (by omega) (v := .bl (F.getD i false)) (by rw [List.getElem?_map, iget (d := false) (show i < F.length by omega)]; rfl)) ?_
      have fin : ¬ DeadAt R F i → Same H H' ∧ (∀ s, s < i + 1 → ¬ DeadAt R F s) ∧ ∃ y1 : Option V, [some (V.ref p), some (V.int (0 + i))] = [some (V.ref p), y1] := fun hd => ⟨sm, fun s hs => by
        by_cases e : s = i
        · subst e; exact hd
        · exact hn s (by omega), _, rfl⟩
      refine ⟨F.getD i false, rfl, ?_⟩
      cases hFi : F.getD i false with
      | true =>
        rw [if_neg (by simp)]
        walk_at "g"
        exact fin fun z => by rw [z.1] at hFi; cases hFi
      | false =>
        rw [if_pos (by rfl)]
        walk_at "g"
        refine ⟨p, T.a_Machine, dx, _, _, rfl, sm _ _ hp, T.c_Machine, T.n_Machine_rows, lk_rows _ _, ?_⟩
        obtain ⟨y, hy, dy⟩ := rows_getD (i := i) (row := R.getD i []) hd (iget hi')
        walk_at "g"
        refine Gx.ixT (sm.seqT hx) (Gx.atI_of (k := i) (by omega) hy) ?_
        walk_at "g"
        refine Gx.newT (by simp) (fun t H1 E1 => ?_)
        walk_at "g"
        refine ⟨rowD (R.getD i []), rowD [i, i, i, i, i], Gx.dp_same (sm.trans E1.same) _ _ dy, ?_, shaped_rowD _, shaped_rowD _, ?_⟩
        · unfold rowD
          refine .tup (SqT.of E1.at_) ?_
          have e0 : (0 : Int) + (i : Int) = ((i : Nat) : Int) := by omega
          rw [e0]
          exact .cons (.int _) (.cons (.int _) (.cons (.int _) (.cons (.int _) (.cons (.int _) .nil))))
        rw [eqv_rowD]
        refine ⟨_, rfl, ?_⟩
        refine Gx.iteD (fun hr => ?_) (fun hr => ?_)
        · walk_at "g"
          exact q (0 + i) H1 (sm.trans E1.same) (.inr ⟨i, hi', by omega, hFi, hr⟩)
        · walk_at "g"
          obtain ⟨_, b, c⟩ := fin fun z => hr z.2
          exact ⟨sm.trans E1.same, b, c⟩
    · rintro σ H' ⟨sm, hn, y1, rfl⟩
      walk_at "g"
      refine q (-1) H' sm (.inl ⟨rfl, fun s hs => hn s (by omega)⟩)

theorem izst {K : PySem.W.Frag} {ta : TA} {σ : L2.St} {H : Hp} {R : It → Hp → Prop} (h : ta σ H fun vs H1 => ∃ z b ys, vs = [.str z, .ref b] ∧ SqT K H1 b ys ∧ R (ItzST K z b) H1) : iZipST K ta σ H R := h
theorem dget2 {td ty tx : TE} {σ : L2.St} {H : Hp} {Q : VK} (h : td σ H fun x H1 => ∃ a, x = .ref a ∧ IsD H1 a ∧ ty σ H1 fun y H2 => tx σ H2 fun z H3 => ∃ o, DGet H3 a y o ∧ Q (o.getD z) H3) : tDGet2 td ty tx σ H Q := h
theorem dpop1 {td ty : TE} {σ : L2.St} {H : Hp} {Q : VK} (h : td σ H fun x H1 => ∃ a, x = .ref a ∧ IsD H1 a ∧ ty σ H1 fun y H2 => ∃ kvs k v, H2 a = some (.dK kvs) ∧ y = kV k ∧ valV kvs k = some v ∧ Q v (upd H2 a (.dK (dropK kvs k)))) : tDPop1 td ty σ H Q := h
theorem lockS {t : TS} {D : Ends} {σ : L2.St} {H : Hp} {d : Addr} {u : HO} (hd : H d = some u) (m : Mut (some u)) (h : ∀ od, t ⟨fun σ' H' => H' d = some (.frz od u) ∧ D.nx σ' (upd H' d u), fun v H' => H' d = some (.frz od u) ∧ D.rt v (upd H' d u), fun σ' H' => H' d = some (.frz od u) ∧ D.bk σ' (upd H' d u), fun σ' H' => H' d = some (.frz od u) ∧ D.ct σ' (upd H' d u)⟩ σ (upd H d (.frz od u))) : tLock t D σ H := ⟨d, u, hd, m, h⟩
theorem sgnI_len (R : List (List Nat)) (s i : Nat) (t : Int) : (sgnI R s i t).length ≤ i := by
  unfold sgnI
  rw [List.length_map]
  exact Nat.le_trans (List.length_filter_le _ _) (by rw [List.length_range]; exact Nat.le_refl _)
def edge0 (R : List (List Nat)) (dd : Int) (s : Nat) : Eqn := fun t => if t ≠ dd ∧ sgnI R s 5 t ≠ [] then some (.one (sgnI R s 5 t)) else none
open Classical in
noncomputable def takeE (F : Eqn) (kvs : List (Key × V)) (i : Nat) : Eqn := fun t => if (Sum.inl t : Key) ∈ (kvs.take i).map (fun x : Key × V => x.1) then F t else none
theorem takeE_nil {K : PySem.W.Frag} {H : Hp} {F : Eqn} {kvs : List (Key × V)} : EqD K H [] (takeE F kvs 0) := by
  have e0 : takeE F kvs 0 = fun _ => none := by
    funext t
    unfold takeE
    rw [if_neg (by simp)]
  rw [e0]
  exact ⟨List.nodup_nil, fun _ _ => rfl, (fun _ _ z => nomatch z), fun k hk => by simp at hk⟩
theorem takeE_all {F : Eqn} {kvs : List (Key × V)} (h : ∀ t, (F t).isSome → (Sum.inl t : Key) ∈ kvs.map (fun x : Key × V => x.1)) : takeE F kvs kvs.length = F := by
  funext t
  unfold takeE
  rw [List.take_length]
  cases hF : F t with
  | none => split <;> rfl
  | some p => rw [if_pos (h t (by rw [hF]; rfl))]
theorem takeE_put {F : Eqn} {kvs : List (Key × V)} {i : Nat} {t0 : Int} {v : V} {p : PP} (h : kvs[i]? = some (.inl t0, v)) (hF : F t0 = some p) : (fun t => if t = t0 then some p else takeE F kvs i t) = takeE F kvs (i + 1) := by
  funext t
  unfold takeE
  rw [take_key h]
  by_cases ht : t = t0
  · subst ht
    rw [if_pos rfl, if_pos (by simp), hF]
  · rw [if_neg ht]
    have : (Sum.inl t : Key) ∈ (kvs.take i).map (fun x : Key × V => x.1) ++ [Sum.inl t0] ↔ (Sum.inl t : Key) ∈ (kvs.take i).map (fun x : Key × V => x.1) := by
      rw [List.mem_append, List.mem_singleton]
      exact ⟨fun z => z.elim id fun z => absurd (by injection z) ht, .inl⟩
    by_cases hc : (Sum.inl t : Key) ∈ (kvs.take i).map (fun x : Key × V => x.1)
    · rw [if_pos hc, if_pos (this.mpr hc)]
    · rw [if_neg hc, if_neg (fun z => hc (this.mp z))]
theorem valV_of_mem {κ : Type} [DecidableEq κ] : ∀ {kvs : List (κ × V)} {k : κ} {v : V}, (kvs.map (·.1)).Nodup → (k, v) ∈ kvs → valV kvs k = some v
  | [], k, v, _, h => by cases h
  | p :: r, k, v, nd, h => by
    rw [List.map_cons, List.nodup_cons] at nd
    rcases List.mem_cons.mp h with rfl | h
    · rw [valV_pos rfl]
    · have hne : p.1 ≠ k := fun z => nd.1 (z ▸ List.mem_map.mpr ⟨(k, v), h, rfl⟩)
      rw [valV_neg hne]
      exact valV_of_mem nd.2 h
/-- the signs so far, a text for each target -/
structure SgD (kvs : List (Key × V)) (R : List (List Nat)) (s : Nat) (dd : Int) (i : Nat) : Prop where
  nd : (kvs.map (·.1)).Nodup
  at_ : ∀ t : Int, valV kvs (.inl t) = if t ≠ dd ∧ sgnI R s i t ≠ [] then some (.str (Gx.mkS (sgnI R s i t))) else none
  ks : ∀ k ∈ kvs.map (·.1), ∃ t : Int, k = .inl t
  len : kvs.length ≤ i
theorem SgD.nil {R : List (List Nat)} {s : Nat} {dd : Int} : SgD [] R s dd 0 := ⟨List.nodup_nil, (fun t => by
  rw [if_neg]
  · rfl
  · rintro ⟨_, h⟩
    exact h rfl), (fun k hk => by simp at hk), Nat.le_refl _⟩
theorem SgD.step {kvs : List (Key × V)} {R : List (List Nat)} {s : Nat} {dd : Int} {i : Nat} (h : SgD kvs R s dd i) (hne : ((mv R s i : Nat) : Int) ≠ dd) : SgD (putK kvs (.inl ((mv R s i : Nat) : Int)) (.str (Gx.mkS (sgnI R s i ((mv R s i : Nat) : Int) ++ [sg5 i])))) R s dd (i + 1) := by
  refine ⟨nd_put _ h.nd, fun t => ?_, fun k hk => ?_, Nat.le_trans (length_putK _ _ _) (Nat.succ_le_succ h.len)⟩
  · rw [valV_put, sgnI_succ]
    by_cases e : t = ((mv R s i : Nat) : Int)
    · subst e
      rw [if_pos rfl, if_pos rfl, if_pos ⟨hne, by simp⟩]
    · have e2 : (if ((mv R s i : Nat) : Int) = t then [sg5 i] else []) = [] := if_neg fun z => e z.symm
      rw [if_neg (fun z => e (by injection z)), e2, List.append_nil]
      exact h.at_ t
  · rcases keys_put hk with rfl | hk
    · exact ⟨_, rfl⟩
    · exact h.ks k hk
theorem SgD.skip {kvs : List (Key × V)} {R : List (List Nat)} {s : Nat} {dd : Int} {i : Nat} (h : SgD kvs R s dd i) (he : ((mv R s i : Nat) : Int) = dd) : SgD kvs R s dd (i + 1) := by
  refine ⟨h.nd, fun t => ?_, h.ks, Nat.le_succ_of_le h.len⟩
  rw [sgnI_succ, h.at_ t]
  by_cases e : t = dd
  · rw [if_neg (fun z => z.1 e), if_neg (fun z => z.1 e)]
  · have e2 : (if ((mv R s i : Nat) : Int) = t then [sg5 i] else []) = [] := if_neg fun z => e (z.symm.trans he)
    rw [e2, List.append_nil]
def sp_equation (K : PySem.W.Frag) (C : Addr) : Sp := fun vs H Q _ => ∃ (p : Addr) (R : List (List Nat)) (F : List Bool) (s : Nat) (dd : Int), vs = [.ref p, .int s, .int dd] ∧ MachAt K C H p R F ∧ Five R ∧ F.length = R.length ∧ s < R.length ∧
  ∀ H' d kvs, Same H H' → H d = none → H' d = some (.dK kvs) → EqD K H' kvs (eqn0 R F dd s) → kvs.length ≤ 6 → Q (.ref d) H'
theorem G_equation (T : Txt K mg w) : FnOk P w K mg base CX0 1 T.f_equation T.fd_equation ["machine", "state", "dead"] (sp_equation K T.a_Machine) := by
  refine T.F_equation.ok sc_equation (fun vs H Q E h => ?_) (fun cdv A outer s H vs Q E hr h => ?_)
  · obtain ⟨p, R, F, s, dd, rfl, _⟩ := h
    rfl
  · obtain ⟨p, R, F, s, dd, rfl, ⟨dx, x, y, hp, d1, d2⟩, five, hF, hs, q⟩ := h
    obtain ⟨r, xs, rfl, hx, hd⟩ := rowsD_at d1
    obtain ⟨f, rfl, hf⟩ := finsD_at d2
    have hxl : xs.length = R.length := by rw [Gx.dpAll_len hd, List.length_map]
    refine ⟨_, ((pss_cons (ps_set (i := 3) sc_equation.nd rfl (Or.inr rfl) pe_dnewK)
  (pss_cons (ps_for PassesOwn.never rfl (pi_zipST (by rfl) T.z_zip (pa_cons (pe_glob (v := .str (Str.ofString ":;abc")) rfl T.g_SIGNS ⟨_, rfl⟩) (pa_cons (pe_ix ix_tup (pe_fld (pv 0) rfl) (pv 1) (fun _ _ => rfl)) pa_nil))) (pg_tup rfl (pgs_cons (pg_name (i := 4) sc_equation.nd rfl (Or.inl rfl)) (pgs_cons (pg_name (i := 5) sc_equation.nd rfl (Or.inl rfl)) pgs_nil)))
  (pss_one (ps_if (pt_cmpR op_ne (pv 5) (pv 2) (nomark _))
  (pss_one (ps_dput (Gx.hu1 hr.units) (pv 3) (pv 5) (pe_op Gx.op_addS (pe_dget2 (Gx.hu1 hr.units) (pv 3) (pv 5) pe_str ⟨rfl, rfl, rfl, rfl⟩) (pv 4)) rfl))
  pss_nil)))
  (pss_cons (ps_lock (Gx.ps_setDc (i := 6) (own := [("target", 5)]) (g := (gName 5)) (tt := tYes) rfl sc_equation.nd rfl rfl (Gx.sw_dict rfl rfl rfl (by decide +kernel)) (pi_keys (pv 3)) (blkOk_by (N := ["machine", "state", "dead", "signs", "sign", "target", "terms"]) (sc := defScope s_equation) (by decide +kernel)) (fun _ _ _ _ _ => (pg_name (i := 5) sc_equation.nd rfl (Or.inl rfl))) (fun _ _ _ _ _ => pts_nil) (fun _ _ _ _ _ => (pv 5)) (fun _ _ _ _ _ => (pe_tup (pa_cons (pe_tup (pa_cons pe_str (pa_cons (pe_dget (Gx.hu1 hr.units) (pv 3) (pv 5) (fun _ _ => rfl)) pa_nil))) (pa_cons pe_int pa_nil))))))
  (C8.pss_cut (ps_if (pt_truth (pe_ix ix_tup (pe_fld (pv 0) rfl) (pv 1) (fun _ _ => rfl)) (by intro _; rfl))
  (pss_one (ps_dput (Gx.hu1 hr.units) (pv 6) (pe_un un_neg pe_int) (pe_glob (v := .ref T.a_EMPTY) rfl T.g_EMPTY rfl) rfl))
  pss_nil)
  (pss_one (ps_ret (pv 6)))))))), ?_⟩
    rw [st_equation]
    try dsimp only [cxOf]
    walk_at "g"
    intro S nS
    walk_at "g"
    have s1 : Same H (upd H S (.dK [])) := Gx.Same.put (Same.refl H) nS
    refine izst ?_
    walk_at "g"
    refine ⟨p, T.a_Machine, dx, _, _, rfl, s1 _ _ hp, T.c_Machine, T.n_Machine_rows, lk_rows _ _, ?_⟩
    walk_at "g"
    obtain ⟨r2, e2, h2⟩ := rows_get hd (iget (d := []) hs)
    refine Gx.ixT (s1.seqT hx) (Gx.atI_of (k := s) rfl e2) ?_
    walk_at "g"
    have hrl := (five.2 s hs).1
    refine ⟨_, r2, _, rfl, s1.seqT h2, ?_⟩
    refine for_zipST (by rw [List.length_map, hrl]; rfl) (fun i σ H' => Same H H' ∧ ∃ (kvs : List (Key × V)) (y1 y2 y3 : Option V), H' S = some (.dK kvs) ∧ SgD kvs R s dd i ∧ σ = [some (.ref p), some (.int s), some (.int dd), some (.ref S), y1, y2, y3]) ⟨s1, [], none, none, none, upd_same, SgD.nil, rfl⟩ (fun i σ H' z => z.1.seqT h2) ?_ ?_
    · rintro i c y T0 σ H' hc hy ⟨sm, kvs, y1, y2, y3, hS, hG, rfl⟩ nT
      walk_at "g"
      have hi : i < 5 := (List.getElem?_eq_some_iff.mp hc).1
      have hci : c = sg5 i := by
        unfold sg5
        rw [List.getD_eq_getElem?_getD, hc]
        rfl
      have hyi : y = .int (mv R s i : Nat) := by
        rw [List.getElem?_map, iget (d := 0) (by omega)] at hy
        cases hy
        rfl
      subst hci hyi
      have hSne : S ≠ T0 := fun z => by rw [z, nT] at hS; cases hS
      have sm2 : Same H (upd H' T0 (.tup [.str (Gx.mkS [sg5 i]), .int (mv R s i : Nat)])) := Gx.Same.put sm (fresh_of sm nT)
      have eT : (upd H' T0 (.tup [.str (Gx.mkS [sg5 i]), .int (mv R s i : Nat)])) T0 = some (.tup [.str (Gx.mkS [sg5 i]), .int (mv R s i : Nat)]) := upd_same
      have eS : (upd H' T0 (.tup [.str (Gx.mkS [sg5 i]), .int (mv R s i : Nat)])) S = some (.dK kvs) := by rw [upd_ne hSne]; exact hS
      refine ⟨T0, _, rfl, SqT.of eT, rfl, ?_⟩
      generalize (upd H' T0 (.tup [.str (Gx.mkS [sg5 i]), .int (mv R s i : Nat)])) = H2 at sm2 eS ⊢
      walk_at "g"
      refine Gx.iteDn (fun hne => ?_) (fun he => ?_)
      · refine Gx.dput ?_
        walk_at "g"
        refine dget2 ?_
        walk_at "g"
        refine ⟨.inl ⟨kvs, .inl eS⟩, ?_⟩
        walk_at "g"
        refine ⟨_, DGet.k (k := .inl ((mv R s i : Nat) : Int)) eS, ?_⟩
        have ev : (valV kvs (Sum.inl ((mv R s i : Nat) : Int) : Key)).getD (.str (Gx.mkS [])) = .str (Gx.mkS (sgnI R s i ((mv R s i : Nat) : Int))) := by
          rw [hG.at_]
          by_cases e : sgnI R s i ((mv R s i : Nat) : Int) = []
          · rw [if_neg (fun z => z.2 e), e]
            rfl
          · rw [if_pos ⟨hne, e⟩]
            rfl
        rw [ev]
        walk_at "g"
        refine Gx.addM (by have := sgnI_len R s i ((mv R s i : Nat) : Int); rw [List.length_singleton]; omega) ?_
        walk_at "g"
        refine ⟨S, _, rfl, DPut.k (k := .inl ((mv R s i : Nat) : Int)) eS (by have := hG.len; rw [sizeLine_eq]; omega), ?_⟩
        exact ⟨Gx.Same.put sm2 nS, _, _, _, _, upd_same, hG.step hne, rfl⟩
      · walk_at "g"
        exact ⟨sm2, kvs, _, _, _, eS, hG.skip he, rfl⟩
    · rintro σ H' ⟨sm, kvs, y1, y2, y3, hS, hG, rfl⟩
      have hG : SgD kvs R s dd 5 := hG
      walk_at "g"
      refine lockS hS True.intro (fun od => ?_)
      walk_at "g"
      have eH : (upd H' S (.frz od (.dK kvs))) S = some (.frz od (.dK kvs)) := upd_same
      have sL : Same H (upd H' S (.frz od (.dK kvs))) := Gx.Same.put sm nS
      refine ⟨S, od, rfl, .inl ⟨kvs, eH, fun D nD => ?_⟩⟩
      generalize (upd H' S (.frz od (.dK kvs))) = HL at eH sL nD ⊢
      have nDS : D ≠ S := fun z => by rw [z, eH] at nD; cases nD
      refine dc_keys (fun i H' => Same HL H' ∧ ∃ kv', H' D = some (.dK kv') ∧ EqD K H' kv' (takeE (edge0 R dd s) kvs i) ∧ kv'.length ≤ i) ⟨Gx.Same.put (Same.refl HL) nD, [], upd_same, takeE_nil, Nat.le_refl _⟩ (fun i H' _ z => z.1 _ _ eH) ?_ ?_
      · rintro i k v H' hkv ⟨s', kv', e', hE', hl'⟩
        have hik := (List.getElem?_eq_some_iff.mp hkv).1
        obtain ⟨t, rfl⟩ := hG.ks k (List.mem_map.mpr ⟨(k, v), List.mem_of_getElem? hkv, rfl⟩)
        have hv := valV_of_mem hG.nd (List.mem_of_getElem? hkv)
        have hat := hG.at_ t
        rw [hv] at hat
        have hc : t ≠ dd ∧ sgnI R s 5 t ≠ [] := by
          refine Decidable.byContradiction fun z => ?_
          rw [if_neg z] at hat
          cases hat
        rw [if_pos hc] at hat
        cases hat
        have hF : edge0 R dd s t = some (.one (sgnI R s 5 t)) := by unfold edge0; rw [if_pos hc]
        have hd' := s' _ _ eH
        show gName 5 (V.int t) _ _ _
        walk_at "g"
        refine ⟨rfl, ?_⟩
        walk_at "g"
        refine ⟨S, _, rfl, by rw [← hv]; exact DGet.frz (k := .inl t) hd', ?_⟩
        walk_at "g"
        refine Gx.newT (by simp) (fun a1 H1 E1 => ?_)
        walk_at "g"
        refine Gx.newT (by simp) (fun a2 H2 E2 => ?_)
        walk_at "g"
        have s2 := E1.same.trans E2.same
        have nD' : H D = none := fresh_of sL nD
        refine ⟨kv', .inl t, rfl, s2 _ _ e', by rw [sizeLine_eq]; have := hG.len; omega, Gx.Same.put (s'.trans s2) nD, _, upd_same, ?_, Nat.le_trans (length_putK _ _ _) (Nat.succ_le_succ hl')⟩
        rw [← takeE_put hkv hF]
        have dp : Dp K H2 (.ref a2) (partD (.one (sgnI R s 5 t))) := .tup (SqT.of E2.at_) (.cons (.tup (SqT.of (E2.same _ _ E1.at_)) (.cons (.str _) (.cons (.str _) .nil))) (.cons (.int _) .nil))
        exact ((hE'.same s2).put t dp).updK (s2 _ _ e')
      · rintro H' ⟨s', kv', e', hE', hl'⟩
        have hE' : EqD K H' kv' (edge0 R dd s) := by
          rw [takeE_all] at hE'
          · exact hE'
          · intro t ht
            have hc : t ≠ dd ∧ sgnI R s 5 t ≠ [] := by
              refine Decidable.byContradiction fun z => ?_
              unfold edge0 at ht
              rw [if_neg z] at ht
              cases ht
            have := hG.at_ t
            rw [if_pos hc] at this
            exact valV_in this
        have eH' := s' _ _ eH
        walk_at "g"
        refine ⟨eH', ?_⟩
        have sb : Same H (upd H' S (.dK kvs)) := Gx.Same.put (sL.trans s') nS
        have eD : (upd H' S (.dK kvs)) D = some (.dK kv') := by rw [upd_ne nDS]; exact e'
        have hEb : EqD K (upd H' S (.dK kvs)) kv' (edge0 R dd s) := hE'.mono fun v p z => Gx.dp_tups (tupsU eH' (fun _ z => nomatch z) (fun _ _ z => nomatch z)) _ _ (noL_part p) z
        generalize (upd H' S (.dK kvs)) = Hb at sb eD hEb ⊢
        have nDH : H D = none := fresh_of sL nD
        refine ⟨fun σ H' => Same H H' ∧ (∃ kv2, H' D = some (.dK kv2) ∧ EqD K H' kv2 (eqn0 R F dd s) ∧ kv2.length ≤ 6) ∧ σ = [some (V.ref p), some (V.int s), some (V.int dd), some (V.ref S), y1, y2, some (V.ref D)], ?_, ?_⟩
        · walk_at "g"
          refine ⟨p, T.a_Machine, dx, _, _, rfl, sb _ _ hp, T.c_Machine, T.n_Machine_finals, lk_finals _ _, ?_⟩
          walk_at "g"
          refine Gx.ixT (sb.seqT hf) (Gx.atI_of (k := s) rfl (v := .bl (F.getD s false)) (by rw [List.getElem?_map, iget (d := false) (show s < F.length by omega)]; rfl)) ?_
          refine ⟨F.getD s false, rfl, ?_⟩
          have hm1 : ¬ ((-1 : Int) ≠ dd ∧ sgnI R s 5 (-1) ≠ []) := fun z => by
            obtain ⟨k, _, hk⟩ := sgnI_ne z.2
            omega
          cases hFs : F.getD s false with
          | true =>
            dsimp only
            rw [if_pos rfl]
            refine Gx.dput ?_
            walk_at "g"
            refine ⟨D, _, rfl, DPut.k (k := .inl (-1)) eD (by have := hG.len; rw [sizeLine_eq]; omega), ?_⟩
            refine ⟨Gx.Same.put sb nDH, ⟨_, upd_same, ?_, Nat.le_trans (length_putK _ _ _) (by have := hG.len; omega)⟩, rfl⟩
            have h1 := (hEb.put (-1) (emptyD T Hb)).updK eD (ks' := putK kv' (.inl (-1)) (.ref T.a_EMPTY))
            have e1 : (fun t : Int => if t = -1 then some PP.e else edge0 R dd s t) = eqn0 R F dd s := by
              funext t
              unfold eqn0 edge0
              rw [hFs]
              by_cases z : t = -1
              · rw [if_pos z, if_pos z, if_pos rfl]
              · rw [if_neg z, if_neg z]
            rw [← e1]
            exact h1
          | false =>
            walk_at "g"
            refine ⟨sb, ⟨kv', eD, ?_, by have := hG.len; omega⟩, rfl⟩
            have e1 : edge0 R dd s = eqn0 R F dd s := by
              funext t
              unfold eqn0 edge0
              rw [hFs]
              by_cases z : t = -1
              · subst z
                rw [if_neg hm1, if_pos rfl, if_neg (by decide)]
              · rw [if_neg z]
            rw [← e1]
            exact hEb
        · rintro σ H2 ⟨s2, ⟨kv2, e2, hE2, l2⟩, rfl⟩
          walk_at "g"
          exact q H2 D kv2 s2 nDH e2 hE2 l2
end
end K15
namespace K15
open PySem PySem.Spec PyProof.Rows L2
local macro_rules | `(tactic| walk_at "con") => `(tactic| first | with_reducible refine Gx.conE K15.ks0 ?_ | with_reducible refine Gx.conE K15.ks1 ?_ | with_reducible refine Gx.conE K15.ks2 ?_ | with_reducible refine Gx.conE K15.ks3 ?_ | with_reducible refine Gx.conE K15.ks4 ?_ | with_reducible refine Gx.conE K15.ks5 ?_ | with_reducible refine Gx.conE K15.ks6 ?_ | with_reducible refine Gx.conE K15.ks7 ?_ | with_reducible refine Gx.conE K15.ks8 ?_ | with_reducible refine Gx.conE K15.ks9 ?_ | with_reducible refine Gx.conE K15.ks10 ?_ | with_reducible refine Gx.conE K15.ks11 ?_ | with_reducible refine Gx.conE K15.ks12 ?_ | with_reducible refine Gx.conE K15.ks13 ?_ | with_reducible refine Gx.conE K15.ks14 ?_ | with_reducible refine Gx.conE K15.ks15 ?_)
section
variable {P : Program} {w : World} {K : PySem.W.Frag} {mg : Str → Option Value} {base : Heap}
/-! ### what is known, step by step -/
theorem knownAt_dead {Ks : Nat → Eqn} {n : Nat} {dead : Nat → Prop} (h : Start Ks n dead) {j : Nat} (hj : j < n) (hd : dead (n - 1 - j)) : knownAt Ks n (j + 1) = knownAt Ks n j := by
  obtain ⟨_, h2, _⟩ := start_at h j hj
  funext e
  show stepK (knownAt Ks n j) (n - 1 - j) e = _
  unfold stepK
  split
  · unfold stepE
    rw [(h2 _ hd).2 e]
  · rfl
theorem knownAt_from {Ks : Nat → Eqn} {n : Nat} {dead : Nat → Prop} (h : Start Ks n dead) {j0 : Nat} : ∀ d : Nat, j0 + d ≤ n → (∀ s, n - j0 - d ≤ s → s < n - j0 → dead s) → knownAt Ks n (j0 + d) = knownAt Ks n j0
  | 0, _, _ => rfl
  | d + 1, hn, hd => by
    rw [← knownAt_from h d (by omega) fun s a b => hd s (by omega) b]
    show knownAt Ks n ((j0 + d) + 1) = _
    exact knownAt_dead h (j := j0 + d) (by omega) (hd (n - 1 - (j0 + d)) (by omega) (by omega))
theorem knownAt_top {Ks : Nat → Eqn} {n : Nat} {dead : Nat → Prop} (h : Start Ks n dead) {m : Nat} (hm : m < n) (hd : ∀ s, m < s → s < n → dead s) : knownAt Ks n (n - 1 - m) = Ks := by
  have := knownAt_from h (j0 := 0) (n - 1 - m) (by omega) fun s a b => hd s (by omega) (by omega)
  rw [Nat.zero_add] at this
  exact this
theorem knownAt_to {Ks : Nat → Eqn} {n : Nat} {dead : Nat → Prop} (h : Start Ks n dead) {m m' : Nat} (hm : m < n) (hlt : m' < m) (hd : ∀ s, m' < s → s < m → dead s) : knownAt Ks n (n - 1 - m') = stepK (knownAt Ks n (n - 1 - m)) m := by
  have := knownAt_from h (j0 := n - 1 - m + 1) (m - m' - 1) (by omega) fun s a b => hd s (by omega) (by omega)
  rw [show n - 1 - m + 1 + (m - m' - 1) = n - 1 - m' by omega] at this
  rw [this]
  show stepK (knownAt Ks n (n - 1 - m)) (n - 1 - (n - 1 - m)) = _
  rw [show n - 1 - (n - 1 - m) = m by omega]
theorem inF_okp {a b : PP} {x y : Nat} (ha : a.sg) (hb : b.sg) (da : a.depth ≤ x) (db : b.depth ≤ y) : (inF a b).sg ∧ (inF a b).depth ≤ max x y + 1 := by
  unfold inF
  split
  · exact ⟨ha, by omega⟩
  · exact ⟨⟨ha, hb⟩, by simp only [PP.depth]; omega⟩
theorem addO_okp {o : Option PP} {b : PP} {x y : Nat} (ho : ∀ a, o = some a → a.sg ∧ a.depth ≤ x) (hb : b.sg) (db : b.depth ≤ y) : (addO o b).sg ∧ (addO o b).depth ≤ max x y + 1 := by
  cases o with
  | none => exact ⟨hb, by show b.depth ≤ _; omega⟩
  | some a =>
    obtain ⟨h1, h2⟩ := ho a rfl
    exact ⟨⟨h1, hb⟩, by show max a.depth b.depth + 1 ≤ _; omega⟩
theorem solve1_okp {F : Eqn} {s : Int} {m : Nat} (h : PartsOk F m) : PartsOk (solve1 F s) (m + 2) := fun t q hq => by
  obtain ⟨_, p, hp, e | ⟨l, hl, e⟩⟩ := solve1_from hq
  · subst e
    obtain ⟨a, b⟩ := h t q hp
    exact ⟨a, by omega⟩
  · subst e
    obtain ⟨a, b⟩ := h t p hp
    obtain ⟨c, d⟩ := h s l hl
    have := inF_okp (a := .star l) (b := p) (x := m + 1) (y := m) c a (by show l.depth + 1 ≤ _; omega) b
    exact ⟨this.1, by omega⟩
theorem knownAt_okp {Ks : Nat → Eqn} {n : Nat} (h : ∀ e, PartsOk (Ks e) 1) : ∀ j e, PartsOk (knownAt Ks n j e) (1 + 4 * j)
  | 0, e => h e
  | j + 1, e => by
    have ih := knownAt_okp (n := n) h j
    show PartsOk (stepK (knownAt Ks n j) (n - 1 - j) e) _
    unfold stepK
    split
    · intro t p hp
      unfold stepE at hp
      cases hf : knownAt Ks n j e ((n - 1 - j : Nat) : Int) with
      | none =>
        rw [hf] at hp
        obtain ⟨a, b⟩ := ih e t p hp
        exact ⟨a, by omega⟩
      | some f =>
        rw [hf] at hp
        dsimp only at hp
        by_cases ht : t = ((n - 1 - j : Nat) : Int)
        · rw [if_pos ht] at hp; cases hp
        · rw [if_neg ht] at hp
          cases hq : solve1 (knownAt Ks n j (n - 1 - j)) ((n - 1 - j : Nat) : Int) t with
          | none =>
            rw [hq] at hp
            obtain ⟨a, b⟩ := ih e t p hp
            exact ⟨a, by omega⟩
          | some q =>
            rw [hq] at hp
            cases hp
            obtain ⟨a, b⟩ := solve1_okp (ih (n - 1 - j)) t q hq
            obtain ⟨c, d⟩ := ih e _ f hf
            have h1 := inF_okp c a d b
            have h2 := addO_okp (o := knownAt Ks n j e t) (b := inF f q) (x := 1 + 4 * j) (fun x hx => ih e t x hx) h1.1 h1.2
            exact ⟨h2.1, by omega⟩
    · intro t p hp
      obtain ⟨a, b⟩ := ih e t p hp
      exact ⟨a, by omega⟩
theorem eqn0_okp (R : List (List Nat)) (F : List Bool) (dd : Int) (e : Nat) : PartsOk (eqn0 R F dd e) 1 ∧ ∀ t p, eqn0 R F dd e t = some p → p.size = 1 := by
  have key : ∀ t p, eqn0 R F dd e t = some p → p = .e ∨ p = .one (sgnI R e 5 t) := fun t p hp => by
    unfold eqn0 at hp
    split at hp
    · split at hp
      · exact .inl (Option.some.inj hp).symm
      · cases hp
    · split at hp
      · exact .inr (Option.some.inj hp).symm
      · cases hp
  refine ⟨fun t p hp => ?_, fun t p hp => ?_⟩
  · rcases key t p hp with rfl | rfl
    · exact ⟨trivial, by decide⟩
    · exact ⟨sgnI_cp R e 5 t (Nat.le_refl _), Nat.le_refl _⟩
  · rcases key t p hp with rfl | rfl
    · rfl
    · rfl
/-- a dict with few targets -/
theorem eqd_len {K : PySem.W.Frag} {H : Hp} {kvs : List (Key × V)} {E : Eqn} (h : EqD K H kvs E) {m : Nat} (b : ∀ t p, E t = some p → -1 ≤ t ∧ t ≤ (m : Int)) : kvs.length ≤ m + 2 := by
  have h2 : ∀ l : List Key, l.Nodup → (∀ k ∈ l, ∃ i : Int, k = .inl i ∧ -1 ≤ i ∧ i ≤ (m : Int)) → l.length ≤ m + 2 := fun l nd hl => by
    have h3 : (l.map fun k : Key => match k with | .inl i => (i + 1).toNat | .inr _ => 0).Nodup := by
      rw [List.nodup_iff_pairwise_ne, List.pairwise_map]
      refine List.Pairwise.imp_of_mem ?_ nd
      intro x y hx hy hne z
      obtain ⟨i, rfl, i1, i2⟩ := hl x hx
      obtain ⟨j, rfl, j1, j2⟩ := hl y hy
      dsimp only at z
      exact hne (by rw [show i = j by omega])
    have := nodup_le _ (m + 2) h3 fun x hx => by
      obtain ⟨k, hk, rfl⟩ := List.mem_map.mp hx
      obtain ⟨i, rfl, i1, i2⟩ := hl k hk
      dsimp only
      omega
    rw [List.length_map] at this
    exact this
  have := h2 (kvs.map (·.1)) h.nd fun k hk => by
    obtain ⟨i, e, hi⟩ := h.ks k hk
    obtain ⟨p, hp⟩ := Option.isSome_iff_exists.mp hi
    exact ⟨i, e, b i p hp⟩
  rw [List.length_map] at this
  exact this
theorem tupsK {K : PySem.W.Frag} {H H' : Hp} {d : Addr} {ks : List (Key × V)} (h : H d = some (.dK ks)) (k : ∀ c u, c ≠ d → H c = some u → H' c = some u) : Gx.Tups K H H' := fun a us q => by
  have ne : ∀ {b : Addr} {o : HO}, H b = some o → o ≠ .dK ks → b ≠ d := fun {b o} q n z => by
    rw [z, h] at q
    cases q
    exact n rfl
  rcases q with (q | ⟨o, q⟩) | q
  · exact .inl (.inl (k _ _ (ne q (fun z => nomatch z)) q))
  · exact .inl (.inr ⟨o, k _ _ (ne q (fun z => nomatch z)) q⟩)
  · exact .inr q
/-- the dict of all equations: what stays -/
structure KnF (H0 : Hp) (D p : Addr) (kvs : List (Key × V)) (a : Nat → Addr) (lv : Nat → Prop) : Prop where
  get : ∀ s, lv s → valV kvs (.inl ((s : Nat) : Int)) = some (.ref (a s))
  no : ∀ s, ¬ lv s → valV kvs (.inl ((s : Nat) : Int)) = none
  inj : ∀ s t, lv s → lv t → a s = a t → s = t
  neD : ∀ s, lv s → a s ≠ D
  neP : ∀ s, lv s → a s ≠ p
  fr : ∀ s, lv s → H0 (a s) = none
/-- .. and what moves -/
structure KnI (K : PySem.W.Frag) (H0 H : Hp) (D p : Addr) (kvs : List (Key × V)) (xs : List V) (a : Nat → Addr) (lv : Nat → Prop) (Kf : Nat → Eqn) : Prop where
  sm : Same H0 H
  dD : H D = some (.dK kvs)
  lp : H p = some (.lst xs)
  eq : ∀ s, lv s → ∃ ks, H (a s) = some (.dK ks) ∧ EqD K H ks (Kf s)
section
variable {K : PySem.W.Frag} {H0 H H' : Hp} {D p : Addr} {kvs : List (Key × V)} {xs : List V} {a : Nat → Addr} {lv lv2 : Nat → Prop} {Kf Kg : Nat → Eqn}
theorem KnI.same (h : KnI K H0 H D p kvs xs a lv Kf) (s : Same H H') : KnI K H0 H' D p kvs xs a lv Kf := ⟨h.sm.trans s, s _ _ h.dD, s _ _ h.lp, fun x hx => let ⟨ks, e, q⟩ := h.eq x hx; ⟨ks, s _ _ e, q.same s⟩⟩
theorem KnI.sub (h : KnI K H0 H D p kvs xs a lv Kf) (hs : ∀ s, lv2 s → lv s) (he : ∀ s, lv2 s → Kf s = Kg s) : KnI K H0 H D p kvs xs a lv2 Kg := ⟨h.sm, h.dD, h.lp, fun x hx => let ⟨ks, e, q⟩ := h.eq x (hs x hx); ⟨ks, e, he x hx ▸ q⟩⟩
/-- one dict moves -/
theorem KnI.move (h : KnI K H0 H D p kvs xs a lv Kf) (f : KnF H0 D p kvs a lv2) (hs : ∀ s, lv s → lv2 s) {e : Nat} (he : lv e) {ks : List (Key × V)} {E : Eqn} (k : ∀ c u, c ≠ a e → H c = some u → H' c = some u) (e1 : H' (a e) = some (.dK ks)) (q : EqD K H' ks E) : KnI K H0 H' D p kvs xs a lv (fun s => if s = e then E else Kf s) := by
  obtain ⟨k0, h0, _⟩ := h.eq e he
  have fr := f.fr e (hs e he)
  have tp := tupsK (K := K) h0 k
  refine ⟨fun c u hc => k c u (fun z => by rw [z, fr] at hc; cases hc) (h.sm _ _ hc), k _ _ (fun z => f.neD e (hs e he) z.symm) h.dD, k _ _ (fun z => f.neP e (hs e he) z.symm) h.lp, fun s hs' => ?_⟩
  by_cases z : s = e
  · subst z
    rw [if_pos rfl]
    exact ⟨ks, e1, q⟩
  · rw [if_neg z]
    obtain ⟨k1, h1, q1⟩ := h.eq s hs'
    exact ⟨k1, k _ _ (fun w => z (f.inj s e (hs s hs') (hs e he) w)) h1, q1.mono fun v p d => Gx.dp_tups tp _ _ (noL_part p) d⟩
end
/-! ### one earlier state -/
open Classical in
noncomputable def putE (Ke T : Eqn) (f : PP) (k : Int) (kvs : List (Key × V)) (i : Nat) : Eqn := fun t => if t = k then none else if (Sum.inl t : Key) ∈ (kvs.take i).map (fun x : Key × V => x.1) then (match T t with | none => Ke t | some p => some (addO (Ke t) (inF f p))) else Ke t
theorem putE_0 {Ke T : Eqn} {f : PP} {k : Int} {kvs : List (Key × V)} : (fun t => if t = k then none else Ke t) = putE Ke T f k kvs 0 := by
  funext t
  unfold putE
  rw [List.take_zero, List.map_nil]
  by_cases h : t = k
  · rw [if_pos h, if_pos h]
  · rw [if_neg h, if_neg h, if_neg (by simp)]
theorem putE_all {K : PySem.W.Frag} {H : Hp} {Ke T : Eqn} {f : PP} {k : Int} {kvs : List (Key × V)} (h : EqD K H kvs T) (hf : Ke k = some f) : putE Ke T f k kvs kvs.length = stepE Ke T k := by
  funext t
  unfold putE stepE
  rw [hf, List.take_length]
  dsimp only
  by_cases e : t = k
  · rw [if_pos e, if_pos e]
  · rw [if_neg e, if_neg e]
    cases hT : T t with
    | none => split <;> rfl
    | some p =>
      obtain ⟨v, hv, _⟩ := h.so t p hT
      rw [if_pos (valV_in hv)]
theorem putE_step {Ke T : Eqn} {f q : PP} {k t0 : Int} {kvs : List (Key × V)} {i : Nat} {v : V} (nd : (kvs.map (fun x : Key × V => x.1)).Nodup) (h : kvs[i]? = some (.inl t0, v)) (hT : T t0 = some q) (hk : t0 ≠ k) :
    putE Ke T f k kvs i t0 = Ke t0 ∧ (fun t => if t = t0 then some (addO (putE Ke T f k kvs i t0) (inF f q)) else putE Ke T f k kvs i t) = putE Ke T f k kvs (i + 1) := by
  have hni : (Sum.inl t0 : Key) ∉ (kvs.take i).map (fun x : Key × V => x.1) := by
    intro z
    have e := take_key h
    have nd2 : ((kvs.take (i + 1)).map (fun x : Key × V => x.1)).Nodup := by
      rw [List.map_take]
      exact nd.sublist (List.take_sublist _ _)
    rw [e, List.nodup_append] at nd2
    exact nd2.2.2 _ z _ (List.mem_singleton.mpr rfl) rfl
  have h1 : putE Ke T f k kvs i t0 = Ke t0 := by
    unfold putE
    rw [if_neg hk, if_neg hni]
  refine ⟨h1, ?_⟩
  rw [h1]
  funext t
  by_cases e : t = t0
  · subst e
    rw [if_pos rfl]
    unfold putE
    rw [if_neg hk, take_key h, if_pos (by simp), hT]
  · rw [if_neg e]
    unfold putE
    by_cases e2 : t = k
    · rw [if_pos e2, if_pos e2]
    · rw [if_neg e2, if_neg e2, take_key h]
      have : (Sum.inl t : Key) ∈ (kvs.take i).map (fun x : Key × V => x.1) ++ [Sum.inl t0] ↔ (Sum.inl t : Key) ∈ (kvs.take i).map (fun x : Key × V => x.1) := by
        rw [List.mem_append, List.mem_singleton]
        exact ⟨fun z => z.elim id fun z => absurd (by injection z) e, .inl⟩
      by_cases hc : (Sum.inl t : Key) ∈ (kvs.take i).map (fun x : Key × V => x.1)
      · rw [if_pos hc, if_pos (this.mpr hc)]
      · rw [if_neg hc, if_neg (fun z => hc (this.mp z))]
/-! ### the order of the states -/
theorem down {xs : List Int} (hs : xs.Pairwise (· ≥ ·)) (nd : xs.Nodup) : xs.Pairwise (· > ·) := by
  have := List.Pairwise.and hs (List.nodup_iff_pairwise_ne.mp nd)
  exact this.imp fun {x y} h => by have h1 := h.1; have h2 := h.2; omega
theorem down_get {xs : List Int} (hp : xs.Pairwise (· > ·)) {i j : Nat} {x y : Int} (hi : xs[i]? = some x) (hj : xs[j]? = some y) (h : i < j) : x > y := by
  obtain ⟨i1, rfl⟩ := List.getElem?_eq_some_iff.mp hi
  obtain ⟨j1, rfl⟩ := List.getElem?_eq_some_iff.mp hj
  exact List.pairwise_iff_getElem.mp hp i j i1 j1 h
theorem down_lt {xs : List Int} (hp : xs.Pairwise (· > ·)) {i : Nat} {x y : Int} (hi : xs[i]? = some x) (hy : y ∈ xs) (h : y < x) : ∃ z, xs[i + 1]? = some z ∧ y ≤ z ∧ z < x := by
  obtain ⟨j, hj, rfl⟩ := List.mem_iff_getElem.mp hy
  have ej : xs[j]? = some xs[j] := List.getElem?_eq_getElem hj
  have hij : i < j := by
    by_cases z : i < j
    · exact z
    · by_cases e : i = j
      · subst e
        rw [ej] at hi
        have := Option.some.inj hi
        omega
      · have := down_get hp ej hi (by omega)
        omega
  have e1 : xs[i + 1]? = some xs[i + 1] := List.getElem?_eq_getElem (by omega)
  refine ⟨_, e1, ?_, down_get hp hi e1 (by omega)⟩
  by_cases z : i + 1 = j
  · subst z
    exact Int.le_refl _
  · have := down_get hp e1 ej (by omega)
    omega
end
end K15
namespace K15
open PySem PySem.Spec PyProof.Rows L2
local macro_rules | `(tactic| walk_at "con") => `(tactic| first | with_reducible refine Gx.conE K15.ks0 ?_ | with_reducible refine Gx.conE K15.ks1 ?_ | with_reducible refine Gx.conE K15.ks2 ?_ | with_reducible refine Gx.conE K15.ks3 ?_ | with_reducible refine Gx.conE K15.ks4 ?_ | with_reducible refine Gx.conE K15.ks5 ?_ | with_reducible refine Gx.conE K15.ks6 ?_ | with_reducible refine Gx.conE K15.ks7 ?_ | with_reducible refine Gx.conE K15.ks8 ?_ | with_reducible refine Gx.conE K15.ks9 ?_ | with_reducible refine Gx.conE K15.ks10 ?_ | with_reducible refine Gx.conE K15.ks11 ?_ | with_reducible refine Gx.conE K15.ks12 ?_ | with_reducible refine Gx.conE K15.ks13 ?_ | with_reducible refine Gx.conE K15.ks14 ?_ | with_reducible refine Gx.conE K15.ks15 ?_)
section
variable {P : Program} {w : World} {K : PySem.W.Frag} {mg : Str → Option Value} {base : Heap}
theorem dc_range {lo : Int} {n : Nat} {g : TG} {tt : TT} {tk tv : TE} {vs : List Nat} {σ : L2.St} {H1 : Hp} {D : Addr} {Qd : Hp → Prop} (Pv : Nat → Hp → Prop) (h0 : Pv 0 (upd H1 D (.dK [])))
    (hs : ∀ i H, i < n → Pv i H → g (.int (lo + i)) (wipe σ vs) H fun σ2 H2 => wipe σ2 vs = wipe σ vs ∧ tt σ2 H2 fun b H3 =>
      if b = true then tk σ2 H3 fun y H4 => tv σ2 H4 fun z H5 => ∃ kvs k, y = kV k ∧ H5 D = some (.dK kvs) ∧ kvs.length < sizeLine ∧ Pv (i + 1) (upd H5 D (.dK (putK kvs k z))) else Pv (i + 1) H3) (hd : ∀ H, Pv n H → Qd H) :
    ∃ W : Nat → Nat → Hp → Prop, (∃ m, W 0 m (upd H1 D (.dK []))) ∧ ∀ i m H, W i m H →
      ((Itr lo n).stop i H ∧ Qd H) ∨ ((Itr lo n).go i H ∧ ∃ Nx : Hp → Prop, (∀ H', Nx H' → ∃ m', m' < m ∧ W (i + 1) m' H') ∧ ∀ x H', (Itr lo n).yld i H x H' → g x (wipe σ vs) H' fun σ2 H2 => wipe σ2 vs = wipe σ vs ∧ tt σ2 H2 fun b H3 =>
        if b = true then tk σ2 H3 fun y H4 => tv σ2 H4 fun z H5 => ∃ kvs k, y = kV k ∧ H5 D = some (.dK kvs) ∧ kvs.length < sizeLine ∧ Nx (upd H5 D (.dK (putK kvs k z))) else Nx H3) := by
  refine ⟨fun i m H => m = n - i ∧ i ≤ n ∧ Pv i H, ⟨n, by simp, Nat.zero_le _, h0⟩, ?_⟩
  rintro i m H ⟨rfl, hi, p⟩
  by_cases hlt : i < n
  · refine .inr ⟨hlt, Pv (i + 1), fun H' p' => ⟨n - (i + 1), by omega, rfl, hlt, p'⟩, fun x H' y => ?_⟩
    obtain ⟨e, y⟩ := y
    subst e y
    exact hs i _ hlt p
  · have e : i = n := by omega
    subst e
    exact .inl ⟨Nat.le_refl _, hd H p⟩
theorem putK_fresh {κ : Type} [DecidableEq κ] {kvs : List (κ × V)} {k : κ} {v : V} (h : k ∉ kvs.map (fun x : κ × V => x.1)) : putK kvs k v = kvs ++ [(k, v)] := by
  unfold putK
  rw [if_neg]
  intro z
  obtain ⟨p, hp, e⟩ := List.any_eq_true.mp z
  exact h (List.mem_map.mpr ⟨p, hp, of_decide_eq_true e⟩)
theorem tckw {r : List V → List V → Hp → VK → Prop} {ta tk : TA} {σ : L2.St} {H : Hp} {Q : VK} (h : ta σ H fun vs H1 => tk σ H1 fun zs H2 => r vs zs H2 Q) : tCKw r ta tk σ H Q := h
theorem length_of_keys {kvs : List (Key × V)} {ks : List Int} (h : kvs.map (fun x : Key × V => x.1) = ks.map Sum.inl) : kvs.length = ks.length := by
  have := congrArg List.length h
  rw [List.length_map, List.length_map] at this
  exact this
/-- the dict of equations, the first i made -/
structure CmI (K : PySem.W.Frag) (H1 H : Hp) (D : Addr) (R : List (List Nat)) (F : List Bool) (dd : Int) (i : Nat) (kvs : List (Key × V)) (a : Nat → Addr) (ks : List Int) : Prop where
  sm : Same H1 H
  dD : H D = some (.dK kvs)
  kk : kvs.map (fun x : Key × V => x.1) = ks.map Sum.inl
  nd : ks.Nodup
  len : ks.length ≤ i
  mem : ∀ x : Int, x ∈ ks ↔ ∃ s : Nat, x = (s : Int) ∧ s < i ∧ (s : Int) ≠ dd
  get : ∀ s : Nat, s < i → (s : Int) ≠ dd → valV kvs (.inl (s : Int)) = some (.ref (a s)) ∧ a s ≠ D ∧ H1 (a s) = none ∧ ∃ es, H (a s) = some (.dK es) ∧ EqD K H es (eqn0 R F dd s)
  inj : ∀ s t : Nat, s < i → t < i → (s : Int) ≠ dd → (t : Int) ≠ dd → a s = a t → s = t
theorem CmI.nil {K : PySem.W.Frag} {H1 : Hp} {D : Addr} {R : List (List Nat)} {F : List Bool} {dd : Int} (n : H1 D = none) : CmI K H1 (upd H1 D (.dK [])) D R F dd 0 [] (fun _ => 0) [] :=
  ⟨Gx.Same.put (Same.refl H1) n, upd_same, rfl, List.nodup_nil, Nat.le_refl _, (fun x => ⟨fun z => (by cases z), fun ⟨s, _, z, _⟩ => by omega⟩), (fun s z => by omega), fun s t z => by omega⟩
theorem CmI.skip {K : PySem.W.Frag} {H1 H : Hp} {D : Addr} {R : List (List Nat)} {F : List Bool} {dd : Int} {i : Nat} {kvs : List (Key × V)} {a : Nat → Addr} {ks : List Int} (h : CmI K H1 H D R F dd i kvs a ks) (e : (i : Int) = dd) : CmI K H1 H D R F dd (i + 1) kvs a ks := by
  have lt : ∀ s : Nat, s < i + 1 → (s : Int) ≠ dd → s < i := fun s hs hne => by
    have : s ≠ i := fun z => hne (by rw [z]; exact e)
    omega
  refine ⟨h.sm, h.dD, h.kk, h.nd, Nat.le_succ_of_le h.len, fun x => ?_, fun s hs hne => h.get s (lt s hs hne) hne, fun s t hs ht ns nt => h.inj s t (lt s hs ns) (lt t ht nt) ns nt⟩
  rw [h.mem x]
  exact ⟨fun ⟨s, a1, a2, a3⟩ => ⟨s, a1, by omega, a3⟩, fun ⟨s, a1, a2, a3⟩ => ⟨s, a1, lt s a2 a3, a3⟩⟩
theorem CmI.step {K : PySem.W.Frag} {H1 H H5 : Hp} {D d : Addr} {R : List (List Nat)} {F : List Bool} {dd : Int} {i : Nat} {kvs es : List (Key × V)} {a : Nat → Addr} {ks : List Int} (h : CmI K H1 H D R F dd i kvs a ks) (nD : H1 D = none) (hne : (i : Int) ≠ dd)
    (s5 : Same H H5) (n5 : H d = none) (e5 : H5 d = some (.dK es)) (q5 : EqD K H5 es (eqn0 R F dd i)) :
    CmI K H1 (upd H5 D (.dK (putK kvs (.inl (i : Int)) (.ref d)))) D R F dd (i + 1) (putK kvs (.inl (i : Int)) (.ref d)) (fun x => if x = i then d else a x) (ks ++ [(i : Int)]) := by
  have hdD : d ≠ D := fun z => by rw [z, h.dD] at n5; cases n5
  have hni : (i : Int) ∉ ks := fun z => by
    obtain ⟨s, e, hs, _⟩ := (h.mem _).mp z
    omega
  have hnk : (Sum.inl (i : Int) : Key) ∉ kvs.map (fun x : Key × V => x.1) := by
    rw [h.kk]
    intro z
    obtain ⟨x, hx, e⟩ := List.mem_map.mp z
    injection e with e
    subst e
    exact hni hx
  have hD5 := s5 _ _ h.dD
  have ad : ∀ s : Nat, s < i → (s : Int) ≠ dd → a s ≠ d := fun s hs hn z => by
    obtain ⟨_, _, _, es', e', _⟩ := h.get s hs hn
    rw [z, n5] at e'
    cases e'
  refine ⟨Gx.Same.put (h.sm.trans s5) nD, upd_same, ?_, ?_, ?_, fun x => ?_, fun s hs hn => ?_, fun s t hs ht ns nt e => ?_⟩
  · rw [putK_fresh hnk, List.map_append, h.kk, List.map_append]
    rfl
  · rw [List.nodup_append]
    exact ⟨h.nd, by simp, fun x hx y hy z => hni (by rw [← List.mem_singleton.mp hy, ← z]; exact hx)⟩
  · rw [List.length_append, List.length_singleton]
    exact Nat.succ_le_succ h.len
  · rw [List.mem_append, List.mem_singleton, h.mem x]
    constructor
    · rintro (⟨s, a1, a2, a3⟩ | rfl)
      · exact ⟨s, a1, by omega, a3⟩
      · exact ⟨i, rfl, by omega, hne⟩
    · rintro ⟨s, a1, a2, a3⟩
      by_cases z : s = i
      · subst z
        exact .inr a1
      · exact .inl ⟨s, a1, by omega, a3⟩
  · by_cases z : s = i
    · subst z
      rw [if_pos rfl, valV_put, if_pos rfl]
      refine ⟨rfl, hdD, fresh_of h.sm n5, es, by rw [upd_ne hdD]; exact e5, q5.updK hD5⟩
    · obtain ⟨g1, g2, g3, es', g4, g5⟩ := h.get s (by omega) hn
      rw [if_neg z, valV_put, if_neg (fun w => z (by injection w; omega))]
      exact ⟨g1, g2, g3, es', by rw [upd_ne g2]; exact s5 _ _ g4, (g5.same s5).updK hD5⟩
  · by_cases z : s = i
    · by_cases w : t = i
      · omega
      · rw [if_pos z, if_neg w] at e
        exact absurd e.symm (ad t (by omega) nt)
    · by_cases w : t = i
      · rw [if_neg z, if_pos w] at e
        exact absurd e (ad s (by omega) ns)
      · rw [if_neg z, if_neg w] at e
        exact h.inj s t (by omega) (by omega) ns nt e
def sp_pattern (K : PySem.W.Frag) (C B : Addr) : Sp := fun vs H Q E => ∃ (p : Addr) (R : List (List Nat)) (F : List Bool) (most : Int), vs = [.ref p, .int most] ∧ MachAt K C H p R F ∧ MF R F ∧ R.length ≤ 6 ∧ 1 ≤ most ∧
  (DeadAt R F 0 → ∀ H', Same H H' → Q .non H') ∧
  (∀ dd G, DeadI R F dd → ¬ DeadAt R F 0 → solve1 (knownAt (eqn0 R F dd) R.length (R.length - 1) 0) 0 (-1) = some G →
    ((G.size : Int) ≤ most → ∀ v H', Same H H' → Dp K H' v (ppD G) → Q v H') ∧ Tells K B most ((G.size : Int) ≤ most) H E)
/-- the dict at d, locked or not, is none of the others -/
theorem KnI.other {K : PySem.W.Frag} {H0 H : Hp} {D p d : Addr} {kvs : List (Key × V)} {xs : List V} {a : Nat → Addr} {lv : Nat → Prop} {Kf : Nat → Eqn} (h : KnI K H0 H D p kvs xs a lv Kf) {u v : HO} (hd : H d = some u) (n1 : ∀ xs, u ≠ .tup xs) (n2 : ∀ o w, u ≠ .frz o (.tup w))
    (da : ∀ s, lv s → d ≠ a s) (dD : d ≠ D) (dp : d ≠ p) (d0 : H0 d = none) : KnI K H0 (upd H d v) D p kvs xs a lv Kf :=
  ⟨Gx.Same.put h.sm d0, by rw [upd_ne (Ne.symm dD)]; exact h.dD, by rw [upd_ne (Ne.symm dp)]; exact h.lp, fun s hs => let ⟨ks, e, q⟩ := h.eq s hs; ⟨ks, by rw [upd_ne (Ne.symm (da s hs))]; exact e, q.mono fun v p z => Gx.dp_tups (tupsU hd n1 n2) _ _ (noL_part p) z⟩⟩
set_option maxHeartbeats 8000000 in
theorem G_pattern_of (T : Txt K mg w) : FnOk P w K mg base (L2.CX P w) 6 T.f_pattern_of T.fd_pattern_of ["machine", "most"] (sp_pattern K T.a_Machine T.a_TooMany) := by
  have G_dead_state := G_dead_state (P := P) (w := w) (base := base) T
  have G_equation := G_equation (P := P) (w := w) (base := base) T
  have G_in_front := G_in_front (P := P) (w := w) (base := base) T
  have G_added := G_added (P := P) (w := w) (base := base) T
  have G_solved := G_solved (P := P) (w := w) (base := base) T
  refine T.F_pattern_of.okX sc_pattern_of (fun vs H Q E h => ?_) (fun cdv A outer s H vs Q E hr h => ?_)
  · obtain ⟨p, R, F, most, rfl, _⟩ := h
    rfl
  · obtain ⟨p, R, F, most, rfl, hm, mf, hn6, hmost, q0, q⟩ := h
    refine ⟨_, ((pss_cons (ps_set (i := 2) sc_pattern_of.nd rfl (Or.inr rfl) (pe_call G_dead_state (hr.mono (by first | decide | omega)) (by rfl) T.g_dead_state T.F_dead_state.kp T.b_dead_state .nil pass0 (pa_cons (pv 0) pa_nil)))
  (pss_cons (ps_if (pt_cmpR op_eq (pv 2) pe_int (nomark _))
  (pss_one (ps_ret pe_non))
  pss_nil)
  (pss_cons (Gx.ps_setDc (i := 3) (own := [("state", 4)]) (g := (gName 4))  rfl sc_pattern_of.nd rfl rfl (Gx.sw_dict rfl rfl rfl (by decide +kernel)) (pi_range1 rfl T.z_range (pa_cons (pe_callB Gx.cr_lenQ (by rfl) T.z_len bt_len (pa_cons (pe_fld (pv 0) rfl) pa_nil)) pa_nil)) (blkOk_by (N := ["machine", "most", "dead", "known", "state", "terms", "earlier", "first", "target"]) (sc := defScope s_pattern_of) (by decide +kernel)) (fun _ _ _ _ _ => (pg_name (i := 4) sc_pattern_of.nd rfl (Or.inl rfl))) (fun _ _ _ _ _ => (pts_one (pt_cmpR op_ne (pv 4) (pv 2) (nomark _)))) (fun _ _ _ _ _ => (pv 4)) (fun _ _ _ _ _ => (pe_call G_equation (hr.mono (by first | decide | omega)) (by rfl) T.g_equation T.F_equation.kp T.b_equation .nil pass0 (pa_cons (pv 0) (pa_cons (pv 4) (pa_cons (pv 2) pa_nil))))))
  (pss_cons (ps_for (passes_of rfl) rfl (pi_list (pe_callBK (cr_sortedDIR (b := true) rfl) (by rfl) T.z_sorted bt_sorted (pa_cons (pv 3) pa_nil) (pk_cons pe_bl pk_nil))) (pg_name (i := 4) sc_pattern_of.nd rfl (Or.inl rfl))
  (pss_cons (ps_set (i := 5) sc_pattern_of.nd rfl (Or.inl rfl) (pe_call G_solved (hr.mono (by first | decide | omega)) (by rfl) T.g_solved T.F_solved.kp T.b_solved .nil (passes_call (takes_of rfl rfl rfl rfl) (fun _ _ _ _ h => h)) (pa_cons (pe_dget (Gx.hu1 hr.units) (pv 3) (pv 4) (fun _ _ => rfl)) (pa_cons (pv 4) (pa_cons (pv 1) pa_nil)))))
  (pss_cons (ps_if (pt_cmpR op_eq (pv 4) pe_int (nomark _))
  (pss_one (ps_ret (pe_ix ix_tup (pe_dget (Gx.hu1 hr.units) (pv 5) (pe_un un_neg pe_int) (fun _ _ => rfl)) pe_int (fun _ _ => rfl))))
  pss_nil)
  (pss_one (ps_for (passes_of rfl) rfl (pi_range1 rfl T.z_range (pa_cons (pv 4) pa_nil)) (pg_name (i := 6) sc_pattern_of.nd rfl (Or.inl rfl))
  (pss_one (ps_if (PW.pt (pw_and (pt_cmp (pc_din (Gx.hu1 hr.units) (pv 6) (pv 3))) (pw_and1 (pt_cmp (pc_din (Gx.hu1 hr.units) (pv 4) (pe_dget (Gx.hu1 hr.units) (pv 3) (pv 6) (fun _ _ => rfl)))))))
  (pss_cons (ps_set (i := 7) sc_pattern_of.nd rfl (Or.inl rfl) (pe_dpop1 (pe_dget (Gx.hu1 hr.units) (pv 3) (pv 6) (fun _ _ => rfl)) (pv 4) ⟨rfl, rfl, rfl, rfl⟩))
  (pss_one (ps_lock (ps_for (passes_of rfl) rfl (pi_keys (pv 5)) (pg_name (i := 8) sc_pattern_of.nd rfl (Or.inl rfl))
  (pss_one (ps_expr (pe_call G_added (hr.mono (by first | decide | omega)) (by rfl) T.g_added T.F_added.kp T.b_added .nil (passes_call (takes_of rfl rfl rfl rfl) (fun _ _ _ _ h => h)) (pa_cons (pe_dget (Gx.hu1 hr.units) (pv 3) (pv 6) (fun _ _ => rfl)) (pa_cons (pv 8) (pa_cons (pe_call G_in_front (hr.mono (by first | decide | omega)) (by rfl) T.g_in_front T.F_in_front.kp T.b_in_front .nil (passes_call (takes_of rfl rfl rfl rfl) (fun _ _ _ _ h => h)) (pa_cons (pv 7) (pa_cons (pe_dget (Gx.hu1 hr.units) (pv 5) (pv 8) (fun _ _ => rfl)) (pa_cons (pv 1) pa_nil)))) (pa_cons (pv 1) pa_nil)))))))))))
  pss_nil)))))))
  (pss_one (ps_ret pe_non))))))), ?_⟩
    clear G_dead_state G_equation G_in_front G_added G_solved
    rw [st_pattern_of]
    try dsimp only [cxOf]
    walk_at "g"
    refine ⟨p, R, F, rfl, hm, mf.five, mf.fl, by omega, fun dd H1 s1 hdd => ?_⟩
    walk_at "g"
    refine Gx.iteD (fun h0 => ?_) (fun h0 => ?_)
    · walk_at "g"
      refine q0 ?_ H1 s1
      rcases hdd with ⟨z, _⟩ | ⟨d, _, z, g⟩
      · omega
      · have : d = 0 := by omega
        subst this
        exact g
    have hnd0 : ¬ DeadAt R F 0 := fun z => by
      rcases hdd with ⟨_, g⟩ | ⟨d, g1, g2, g3⟩
      · exact g 0 mf.five.1 z
      · have := mf.one_dead mf.five.1 g1 z g3
        omega
    have st := start_of mf hdd
    obtain ⟨G, hG, made⟩ := made_all st mf.five.1 (fun z => h0 (by omega))
    obtain ⟨qv, qe⟩ := q dd G hdd hnd0 hG
    clear q q0
    walk_at "g"
    have hm1 := hm.same s1
    obtain ⟨dx, x, y, hp, d1, d2⟩ := id hm1
    obtain ⟨r, xs0, rfl, hx, hd⟩ := rowsD_at d1
    have hxl : xs0.length = R.length := by rw [Gx.dpAll_len hd, List.length_map]
    refine ⟨p, T.a_Machine, dx, _, _, rfl, hp, T.c_Machine, T.n_Machine_rows, lk_rows _ _, ?_⟩
    walk_at "g"
    refine ⟨_, rfl, by omega, by omega, fun D nD => ?_⟩
    rw [hxl]
    refine dc_range (fun i H' => ∃ kvs a ks, CmI K H1 H' D R F dd i kvs a ks) ⟨[], _, [], CmI.nil nD⟩ ?_ ?_
    · rintro i H' hi ⟨kvs, a, ks, cm⟩
      have hi' : i < R.length := by omega
      walk_at "g"
      refine ⟨rfl, ?_⟩
      walk_at "g"
      refine Gx.iteDn (fun hne => ?_) (fun he => ?_)
      · have hne' : ((i : Nat) : Int) ≠ dd := fun z => hne (by omega)
        walk_at "g"
        refine ⟨p, R, F, i, dd, by rw [Int.zero_add], hm1.same cm.sm, mf.five, mf.fl, hi', fun H5 d es s5 n5 e5 q5 l5 => ?_⟩
        have hl := length_of_keys cm.kk
        have hlen := cm.len
        refine ⟨kvs, .inl ((i : Nat) : Int), by rw [Int.zero_add]; rfl, s5 _ _ cm.dD, by rw [sizeLine_eq]; omega, _, _, _, cm.step nD hne' s5 n5 e5 q5⟩
      · exact ⟨kvs, a, ks, cm.skip (by omega)⟩
    · rintro H' ⟨kvs, a, ks, cm⟩
      walk_at "g"
      refine tckw ?_
      walk_at "g"
      refine ⟨D, kvs, ks, rfl, rfl, cm.dD, cm.kk, by have := cm.len; omega, fun xs pL hperm hord npL => ?_⟩
      obtain ⟨lv, hlv⟩ : ∃ lv : Nat → Prop, lv = fun s => s < R.length ∧ (s : Int) ≠ dd := ⟨_, rfl⟩
      have lv_of : ∀ s, lv s ↔ s < R.length ∧ (s : Int) ≠ dd := fun s => by rw [hlv]
      have hmem : ∀ x : Int, x ∈ xs ↔ ∃ s : Nat, x = (s : Int) ∧ lv s := fun x => by
        rw [hperm.mem_iff, cm.mem]
        exact ⟨fun ⟨s, h1, h2, h3⟩ => ⟨s, h1, (lv_of s).mpr ⟨by omega, h3⟩⟩, fun ⟨s, h1, h2⟩ => ⟨s, h1, by have := ((lv_of s).mp h2).1; omega, ((lv_of s).mp h2).2⟩⟩
      have hdown : xs.Pairwise (· > ·) := down hord (hperm.nodup_iff.mpr cm.nd)
      have hlv0 : lv 0 := (lv_of 0).mpr ⟨mf.five.1, fun z => h0 (by omega)⟩
      have hget : ∀ s, lv s → valV kvs (.inl (s : Int)) = some (.ref (a s)) ∧ a s ≠ D ∧ H1 (a s) = none ∧ ∃ es, H' (a s) = some (.dK es) ∧ EqD K H' es (eqn0 R F dd s) := fun s hs => cm.get s (by have := ((lv_of s).mp hs).1; omega) ((lv_of s).mp hs).2
      have kf : KnF H1 D pL kvs a lv := by
        refine ⟨fun s hs => (hget s hs).1, fun s hs => ?_, fun s t hs ht e => ?_, fun s hs => (hget s hs).2.1, fun s hs z => ?_, fun s hs => (hget s hs).2.2.1⟩
        · cases e : valV kvs (.inl (s : Int)) with
          | none => rfl
          | some v =>
            have := valV_in e
            have k2 : (Sum.inl (s : Int) : Key) ∈ kvs.map (fun x : Key × V => x.1) := this
            rw [cm.kk] at k2
            obtain ⟨x, hx, ex⟩ := List.mem_map.mp k2
            injection ex with ex
            subst ex
            obtain ⟨s', e1, e2, e3⟩ := (cm.mem _).mp hx
            have e4 : s = s' := by omega
            subst e4
            exact absurd ((lv_of s).mpr ⟨by omega, e3⟩) hs
        · have h1 := (lv_of s).mp hs
          have h2 := (lv_of t).mp ht
          exact cm.inj s t (by omega) (by omega) h1.2 h2.2 e
        · obtain ⟨_, _, _, es, e, _⟩ := hget s hs
          rw [z, npL] at e
          cases e
      have hDL : D ≠ pL := fun z => by
        have := cm.dD
        rw [z, npL] at this
        cases this
      have kn0 : KnI K H1 (upd H' pL (.lst (xs.map V.int))) D pL kvs (xs.map V.int) a lv (eqn0 R F dd) := by
        refine ⟨Gx.Same.put cm.sm (fresh_of cm.sm npL), by rw [upd_ne hDL]; exact cm.dD, upd_same, fun s hs => ?_⟩
        obtain ⟨_, _, _, es, e1, e2⟩ := hget s hs
        exact ⟨es, by rw [upd_ne (kf.neP s hs)]; exact e1, e2.same (Gx.Same.put (Same.refl H') npL)⟩
      generalize upd H' pL (.lst (xs.map V.int)) = Hc at kn0 ⊢
      clear npL cm
      refine ⟨pL, rfl, ⟨_, SqL.of kn0.lp⟩, for_list (xs := xs.map V.int) (fun i σ H' => ∃ (m : Nat) (y4 y5 y6 y7 y8 : Option V), xs[i]? = some (m : Int) ∧ lv m ∧ KnI K H1 H' D pL kvs (xs.map V.int) a (fun s => lv s ∧ s ≤ m) (knownAt (eqn0 R F dd) R.length (R.length - 1 - m)) ∧
        (∀ s, lv s → s ≤ m → ∀ t q, knownAt (eqn0 R F dd) R.length (R.length - 1 - m) s t = some q → (q.size : Int) ≤ most) ∧ σ = [some (.ref p), some (.int most), some (.int dd), some (.ref D), y4, y5, y6, y7, y8]) ?_ (fun i σ H' _ z => ?_) ?_ ?_⟩
      · obtain ⟨j, hj, e0⟩ := List.mem_iff_getElem.mp ((hmem 0).mpr ⟨0, rfl, hlv0⟩)
        have ex0 : xs[0]? = some xs[0] := List.getElem?_eq_getElem (by omega)
        obtain ⟨m, em, hm'⟩ := (hmem _).mp (List.mem_of_getElem? ex0)
        have hd0 : ∀ s, m < s → s < R.length → (s : Int) = dd := fun s hs1 hs2 => Decidable.byContradiction fun z => by
          obtain ⟨k, hk, ek⟩ := List.mem_iff_getElem.mp ((hmem s).mpr ⟨s, rfl, (lv_of s).mpr ⟨hs2, z⟩⟩)
          have ek' : xs[k]? = some (s : Int) := by rw [List.getElem?_eq_getElem hk, ek]
          by_cases k0 : k = 0
          · subst k0
            have e2 : (s : Int) = (m : Int) := ek.symm.trans em
            clear ek em
            omega
          · have := down_get hdown ex0 ek' (by omega)
            omega
        have hk := knownAt_top st ((lv_of m).mp hm').1 hd0
        refine ⟨m, none, none, none, none, none, by rw [ex0, em], hm', ?_, ?_, rfl⟩
        · rw [hk]
          exact kn0.sub (fun s z => z.1) (fun s _ => rfl)
        · rw [hk]
          exact fun s _ _ t q hq => by rw [(eqn0_okp R F dd s).2 t q hq]; exact hmost
      · obtain ⟨m, _, _, _, _, _, _, _, kn, _⟩ := z
        exact SqL.of kn.lp
      · rintro i x σ H' hx' ⟨m, y4, y5, y6, y7, y8, hxm, hlm, kn, hsz, rfl⟩
        have exm : x = .int (m : Int) := by
          rw [List.getElem?_map, hxm] at hx'
          exact (Option.some.inj hx').symm
        subst exm
        walk_at "g"
        have hmn := ((lv_of m).mp hlm).1
        obtain ⟨low, off, on⟩ := start_at st (R.length - 1 - m) (by omega)
        rw [show R.length - 1 - (R.length - 1 - m) = m by omega] at low on
        have okp := knownAt_okp (n := R.length) (fun e => (eqn0_okp R F dd e).1) (R.length - 1 - m)
        have mad := made m hmn
        have nxt : ∀ m', m' < m → (∀ s, m' < s → s < m → (s : Int) = dd) → knownAt (eqn0 R F dd) R.length (R.length - 1 - m') = stepK (knownAt (eqn0 R F dd) R.length (R.length - 1 - m)) m := fun m' h1 h2 => knownAt_to st hmn h1 h2
        have last : m = 0 → solve1 (knownAt (eqn0 R F dd) R.length (R.length - 1 - m) m) (m : Int) (-1) = some G := fun z => by
          subst z
          exact hG
        generalize hKf : knownAt (eqn0 R F dd) R.length (R.length - 1 - m) = Kf at kn hsz low off on okp mad nxt last
        have okp' : ∀ e, PartsOk (Kf e) 21 := fun e t p hp => by
          obtain ⟨h1, h2⟩ := okp e t p hp
          exact ⟨h1, by omega⟩
        obtain ⟨es, e1, e2⟩ := kn.eq m ⟨hlm, Nat.le_refl _⟩
        refine ⟨D, .ref (a m), rfl, by rw [← kf.get m hlm]; exact DGet.k (k := .inl (m : Int)) kn.dD, ?_⟩
        walk_at "g"
        have fra := kf.fr m hlm
        refine ⟨a m, m, most, es, Kf m, rfl, e1, e2, Nat.le_trans (eqd_len e2 (low m (Nat.le_refl _))) (by omega), fun t p hp => ⟨(okp' m t p hp).1, by have := (okp' m t p hp).2; omega⟩, ?_, ?_⟩
        · intro hok H3 d' ts s3 e3 eT lT hd'
          walk_at "g"
          refine Gx.iteD (fun hm0 => ?_) (fun hm0 => ?_)
          · have hm0' : m = 0 := by omega
            obtain ⟨v, hv, dv⟩ := eT.so (-1) G (last hm0')
            walk_at "g"
            refine ⟨d', v, rfl, by rw [← hv]; exact DGet.k (k := .inl (-1)) e3, ?_⟩
            obtain ⟨av, w', rfl, hvs, hvd⟩ := partD_at dv
            walk_at "g"
            refine qv ?_ _ _ (s1.trans (kn.sm.trans s3)) hvd
            cases hl : Kf m (m : Int) with
            | some l => exact hok.2 (-1) G (last hm0') ⟨l, hl⟩
            | none =>
              have h2 := last hm0'
              unfold solve1 at h2
              rw [hl] at h2
              exact hsz m hlm (Nat.le_refl _) _ _ h2
          · have hm1' : 0 < m := by omega
            walk_at "g"
            have okT : ∀ t q, solve1 (Kf m) (m : Int) t = some q → q.sg ∧ q.depth ≤ 50 ∧ (q.size : Int) ≤ most := fun t q hq => by
              obtain ⟨h1, h2⟩ := solve1_okp (okp' m) t q hq
              refine ⟨h1, by omega, ?_⟩
              cases hl : Kf m (m : Int) with
              | some l => exact hok.2 t q hq ⟨l, hl⟩
              | none =>
                unfold solve1 at hq
                rw [hl] at hq
                exact hsz m hlm (Nat.le_refl _) _ _ hq
            have noT : solve1 (Kf m) (m : Int) (m : Int) = none := solve1_self _ _
            have put : ∀ e, e < m → ∀ f, Kf e (m : Int) = some f → ∀ t q, solve1 (Kf m) (m : Int) t = some q → (inF f q).size ≤ G.size ∧ (addO (Kf e t) (inF f q)).size ≤ G.size := mad.put
            have lenT : ts.length ≤ 10 := Nat.le_trans lT (Nat.le_trans (eqd_len e2 (low m (Nat.le_refl _))) (by omega))
            generalize hT : solve1 (Kf m) (m : Int) = Tm at eT okT noT put nxt
            -- where the terms stand
            have dne : ∀ s, lv s → s < m → d' ≠ a s := fun s hs hsm z => by
              rcases hd' with h | h
              · have := kf.inj s m hs hlm (z.symm.trans h)
                omega
              · obtain ⟨ks, q1, _⟩ := kn.eq s ⟨hs, by omega⟩
                rw [z, q1] at h
                cases h
            have dneD : d' ≠ D := fun z => by
              rcases hd' with h | h
              · exact kf.neD m hlm (h.symm.trans z)
              · rw [z, kn.dD] at h
                cases h
            have dneP : d' ≠ pL := fun z => by
              rcases hd' with h | h
              · exact kf.neP m hlm (h.symm.trans z)
              · rw [z, kn.lp] at h
                cases h
            have dfr : H1 d' = none := by
              rcases hd' with h | h
              · rw [h]; exact fra
              · exact fresh_of kn.sm h
            have kn3 : KnI K H1 H3 D pL kvs (xs.map V.int) a (fun s => lv s ∧ s < m) Kf := (kn.same s3).sub (fun s z => ⟨z.1, by omega⟩) (fun s _ => rfl)
            clear kn hd' s3 hok
            refine ⟨_, rfl, by omega, by omega, for_range (lo := 0) (n := ((m : Nat) : Int).toNat) (fun e σ H' => ∃ (y6 y7 y8 : Option V), KnI K H1 H' D pL kvs (xs.map V.int) a (fun s => lv s ∧ s < m) (fun s => if s < e then stepE (Kf s) Tm (m : Int) else Kf s) ∧ H' d' = some (.dK ts) ∧ EqD K H' ts Tm ∧
              (∀ s, lv s → s < e → s < m → ∀ t q, stepE (Kf s) Tm (m : Int) t = some q → (q.size : Int) ≤ most) ∧ σ = [some (.ref p), some (.int most), some (.int dd), some (.ref D), some (.int m), some (.ref d'), y6, y7, y8]) ?_ ?_ ?_⟩
            · refine ⟨_, _, _, kn3.sub (fun s z => z) (fun s _ => by rw [if_neg (by omega)]), e3, eT, fun s _ z => by omega, rfl⟩
            · rintro e σ H4 he ⟨z6, z7, z8, k4, e4, q4, hz4, rfl⟩
              walk_at "g"
              have hem : e < m := by omega
              simp only [Int.zero_add]
              have stay : ¬ lv e ∨ Kf e (m : Int) = none → ∀ s, lv s ∧ s < m → (if s < e then stepE (Kf s) Tm (m : Int) else Kf s) = if s < e + 1 then stepE (Kf s) Tm (m : Int) else Kf s := fun h s hs => by
                by_cases z : s = e
                · subst z
                  rw [if_neg (Nat.lt_irrefl _), if_pos (Nat.lt_succ_self _)]
                  rcases h with h | h
                  · exact absurd hs.1 h
                  · unfold stepE
                    rw [h]
                · by_cases w : s < e
                  · rw [if_pos w, if_pos (by omega)]
                  · rw [if_neg w, if_neg (by omega)]
              refine ⟨D, _, rfl, DGet.k (k := .inl (e : Int)) k4.dD, _, rfl, ?_⟩
              by_cases hle : lv e
              · rw [kf.get e hle]
                rw [if_pos (by rfl)]
                walk_at "g"
                refine ⟨D, .ref (a e), rfl, by rw [← kf.get e hle]; exact DGet.k (k := .inl (e : Int)) k4.dD, ?_⟩
                obtain ⟨ks, f1, f2⟩ := k4.eq e ⟨hle, hem⟩
                rw [if_neg (Nat.lt_irrefl _)] at f2
                refine ⟨a e, _, rfl, DGet.k (k := .inl (m : Int)) f1, _, rfl, ?_⟩
                cases hf : Kf e (m : Int) with
                | none =>
                  rw [f2.no _ hf]
                  rw [if_neg (by decide)]
                  walk_at "g"
                  refine ⟨_, _, _, k4.sub (fun s z => z) (stay (.inr hf)), e4, q4, fun s hs hse hsm t q hq => ?_, rfl⟩
                  by_cases z : s = e
                  · subst z
                    unfold stepE at hq
                    rw [hf] at hq
                    exact hsz s hs (by omega) t q hq
                  · exact hz4 s hs (by omega) hsm t q hq
                | some f =>
                  obtain ⟨v, hv, dv⟩ := f2.so _ f hf
                  rw [hv]
                  rw [if_pos (by rfl)]
                  walk_at "g"
                  refine dpop1 ?_
                  walk_at "g"
                  refine ⟨D, .ref (a e), rfl, by rw [← kf.get e hle]; exact DGet.k (k := .inl (e : Int)) k4.dD, a e, rfl, .inl ⟨ks, .inl f1⟩, ?_⟩
                  walk_at "g"
                  refine ⟨ks, .inl (m : Int), v, f1, rfl, hv, ?_⟩
                  have k5 := k4.move (H' := upd H4 (a e) (.dK (dropK ks (.inl (m : Int))))) kf (fun s z => z.1) ⟨hle, hem⟩ (fun c u hc q => by rw [upd_ne hc]; exact q) upd_same ((f2.drop (m : Int)).updK f1)
                  have dae : d' ≠ a e := dne e hle hem
                  have e5 : (upd H4 (a e) (.dK (dropK ks (.inl (m : Int))))) d' = some (.dK ts) := by rw [upd_ne dae]; exact e4
                  have q5 : EqD K (upd H4 (a e) (.dK (dropK ks (.inl (m : Int))))) ts Tm := q4.updK f1
                  have dv5 : Dp K (upd H4 (a e) (.dK (dropK ks (.inl (m : Int))))) v (partD f) := Gx.dp_tups (tupsU f1 (fun _ z => nomatch z) (fun _ _ z => nomatch z)) _ _ (noL_part f) dv
                  have l5 : (upd H4 (a e) (.dK (dropK ks (.inl (m : Int))))) (a e) = some (.dK (dropK ks (.inl (m : Int)))) := upd_same
                  have lks : (dropK ks (.inl (m : Int))).length ≤ 10 := Nat.le_trans (List.length_filter_le _ _) (Nat.le_trans (eqd_len f2 (low e (by omega))) (by omega))
                  generalize upd H4 (a e) (.dK (dropK ks (.inl (m : Int)))) = H5 at k5 e5 q5 dv5 l5 ⊢
                  walk_at "g"
                  refine lockS e5 True.intro (fun od => ?_)
                  walk_at "g"
                  have k6 := k5.other (v := .frz od (.dK ts)) e5 (fun _ z => nomatch z) (fun _ _ z => nomatch z) (fun s z => dne s z.1 z.2) dneD dneP dfr
                  have e6 : (upd H5 d' (.frz od (.dK ts))) d' = some (.frz od (.dK ts)) := upd_same
                  have q6 : EqD K (upd H5 d' (.frz od (.dK ts))) ts Tm := q5.mono fun v p z => Gx.dp_tups (tupsU e5 (fun _ z => nomatch z) (fun _ _ z => nomatch z)) _ _ (noL_part p) z
                  have dv6 : Dp K (upd H5 d' (.frz od (.dK ts))) v (partD f) := Gx.dp_tups (tupsU e5 (fun _ z => nomatch z) (fun _ _ z => nomatch z)) _ _ (noL_part f) dv5
                  have l6 : (upd H5 d' (.frz od (.dK ts))) (a e) = some (.dK (dropK ks (.inl (m : Int)))) := by rw [upd_ne (Ne.symm dae)]; exact l5
                  generalize upd H5 d' (.frz od (.dK ts)) = H6 at k6 e6 q6 dv6 l6 ⊢
                  have hszf : (f.size : Int) ≤ most := hsz e hle (by omega) _ _ hf
                  refine ⟨d', od, rfl, .inl ⟨ts, e6, for_it walk_keys (fun i σ H' => ∃ y8 : Option V, KnI K H1 H' D pL kvs (xs.map V.int) a (fun s => lv s ∧ s < m) (fun s => if s = e then putE (Kf e) Tm f (m : Int) ts i else if s < e then stepE (Kf s) Tm (m : Int) else Kf s) ∧
                    H' d' = some (.frz od (.dK ts)) ∧ EqD K H' ts Tm ∧ Dp K H' v (partD f) ∧ (∀ t q, putE (Kf e) Tm f (m : Int) ts i t = some q → (q.size : Int) ≤ most) ∧ (∃ ke, H' (a e) = some (.dK ke) ∧ ke.length ≤ 10 + i) ∧
                    σ = [some (.ref p), some (.int most), some (.int dd), some (.ref D), some (.int m), some (.ref d'), some (.int e), some v, y8]) ?_ (fun i σ H' _ z => ?_) ?_ ?_⟩⟩
                  · refine ⟨_, k6.sub (fun s z => z) (fun s z => ?_), e6, q6, dv6, ?_, ⟨_, l6, by omega⟩, rfl⟩
                    · by_cases w : s = e
                      · rw [if_pos w, if_pos w, putE_0]
                      · rw [if_neg w, if_neg w]
                    · intro t q hq
                      rw [← putE_0] at hq
                      dsimp only at hq
                      by_cases w : t = (m : Int)
                      · rw [if_pos w] at hq; cases hq
                      · rw [if_neg w] at hq
                        exact hsz e hle (by omega) _ _ hq
                  · obtain ⟨_, _, z, _⟩ := z
                    exact z
                  · rintro i x σ H7 H7' hi ⟨w8, k7, e7, q7, dv7, hz7, ⟨ke, l7, ll7⟩, rfl⟩ ⟨rfl, kx, vt, hkv, rfl⟩
                    obtain ⟨t0, q0, rfl, hq0⟩ := key_at q7 hkv
                    obtain ⟨vt', hvt, dvt⟩ := q7.so t0 q0 hq0
                    have hne : t0 ≠ (m : Int) := fun z => by rw [z, noT] at hq0; cases hq0
                    obtain ⟨p1, p2⟩ := putE_step (Ke := Kf e) (f := f) q7.nd hkv hq0 hne
                    obtain ⟨osg, odp, osz⟩ := okT t0 q0 hq0
                    obtain ⟨pi1, pi2⟩ := put e hem f hf t0 q0 hq0
                    show gName 8 (V.int t0) _ _ _
                    walk_at "g"
                    refine ⟨D, .ref (a e), rfl, by rw [← kf.get e hle]; exact DGet.k (k := .inl (e : Int)) k7.dD, ?_⟩
                    walk_at "g"
                    refine ⟨d', vt', rfl, by rw [← hvt]; exact DGet.frz (k := .inl t0) e7, ?_⟩
                    walk_at "g"
                    refine ⟨v, vt', f, q0, most, rfl, dv7, dvt, osg, odp, ?_, ?_⟩
                    · intro hq H8 z s8 dz
                      walk_at "g"
                      have k8 := k7.same s8
                      obtain ⟨k0, l8, q8⟩ := k8.eq e ⟨hle, hem⟩
                      rw [if_pos rfl] at q8
                      have ek : k0 = ke := by
                        have := s8 _ _ l7
                        rw [l8] at this
                        injection this with this
                        injection this
                      subst ek
                      have hilt : i < ts.length := hi
                      refine ⟨a e, t0, z, inF f q0, most, k0, putE (Kf e) Tm f (m : Int) ts i, rfl, l8, q8, by omega, dz, ?_, ?_⟩
                      · intro hq2 H9 k9 kp9 l9 q9 ll9
                        walk_at "g"
                        have k10 := k8.move kf (fun s z => z.1) ⟨hle, hem⟩ kp9 l9 q9
                        have tp := tupsK (K := K) l8 kp9
                        refine ⟨_, k10.sub (fun s z => z) (fun s _ => ?_), kp9 _ _ dae (s8 _ _ e7), (q7.same s8).mono fun v p z => Gx.dp_tups tp _ _ (noL_part p) z, Gx.dp_tups tp _ _ (noL_part f) (Gx.dp_same s8 _ _ dv7), fun t q hq3 => ?_, ⟨_, l9, by omega⟩, rfl⟩
                        · by_cases w : s = e
                          · rw [if_pos w, if_pos w, p2]
                          · rw [if_neg w, if_neg w, if_neg w]
                        · rw [← p2] at hq3
                          dsimp only at hq3
                          by_cases w : t = t0
                          · rw [if_pos w] at hq3
                            cases hq3
                            rcases hq2 with hq2 | hq2
                            · rw [hq2]
                              show ((inF f q0).size : Int) ≤ most
                              rcases hq with rfl | hq
                              · rw [show inF f .e = f from if_pos rfl]
                                exact hszf
                              · exact hq
                            · exact hq2
                          · rw [if_neg w] at hq3
                            exact hz7 t q hq3
                      · intro hn H9 x s9 n9 x9
                        refine qe (fun z => hn (.inr ?_)) H9 x (s1.trans (k8.sm.trans s9)) (fresh_of s1 (fresh_of k8.sm n9)) x9
                        rw [p1]
                        omega
                    · intro hn H8 x s8 n8 x8
                      refine qe (fun z => hn (.inr ?_)) H8 x (s1.trans (k7.sm.trans s8)) (fresh_of s1 (fresh_of k7.sm n8)) x8
                      omega
                  · rintro σ H7 ⟨w8, k7, e7, q7, dv7, hz7, _, rfl⟩
                    rw [putE_all q7 hf] at k7 hz7
                    refine ⟨e7, ?_⟩
                    have k8 := k7.other (v := .dK ts) e7 (fun _ z => nomatch z) (fun _ _ z => nomatch z) (fun s z => dne s z.1 z.2) dneD dneP dfr
                    refine ⟨_, _, _, k8.sub (fun s z => z) (fun s z => ?_), upd_same, q7.mono fun v p z => Gx.dp_tups (tupsU e7 (fun _ z => nomatch z) (fun _ _ z => nomatch z)) _ _ (noL_part p) z, fun s hs hse hsm t q hq => ?_, rfl⟩
                    · by_cases w : s = e
                      · subst w
                        rw [if_pos rfl, if_pos (Nat.lt_succ_self _)]
                      · rw [if_neg w]
                        by_cases w2 : s < e
                        · rw [if_pos w2, if_pos (by omega)]
                        · rw [if_neg w2, if_neg (by omega)]
                    · by_cases w : s = e
                      · subst w
                        exact hz7 t q hq
                      · exact hz4 s hs (by omega) hsm t q hq
              · rw [kf.no e hle]
                rw [if_neg (by decide)]
                walk_at "g"
                exact ⟨_, _, _, k4.sub (fun s z => z) (stay (.inl hle)), e4, q4, fun s hs hse hsm => hz4 s hs (by
                  have : s ≠ e := fun z => hle (z ▸ hs)
                  omega) hsm, rfl⟩
            · rintro σ H4 ⟨z6, z7, z8, k4, e4, q4, hz4, rfl⟩
              rw [show ((m : Nat) : Int).toNat = m by omega] at k4 hz4
              obtain ⟨z, hz, hz0, hzm⟩ := down_lt hdown hxm ((hmem 0).mpr ⟨0, rfl, hlv0⟩) (by omega)
              obtain ⟨m', rfl, hlm'⟩ := (hmem z).mp (List.mem_of_getElem? hz)
              have hk := nxt m' (by omega) fun s h1 h2 => Decidable.byContradiction fun z => by
                obtain ⟨k, hk, ek⟩ := List.mem_iff_getElem.mp ((hmem s).mpr ⟨s, rfl, (lv_of s).mpr ⟨by omega, z⟩⟩)
                have ek' : xs[k]? = some (s : Int) := by rw [List.getElem?_eq_getElem hk, ek]
                by_cases ki : k ≤ i
                · by_cases ki' : k = i
                  · subst ki'
                    rw [ek'] at hxm
                    have := Option.some.inj hxm
                    omega
                  · have := down_get hdown ek' hxm (by omega)
                    omega
                · by_cases ki' : k = i + 1
                  · subst ki'
                    rw [ek'] at hz
                    have := Option.some.inj hz
                    omega
                  · have := down_get hdown hz ek' (by omega)
                    omega
              have hstep : ∀ s, s < m → stepK Kf m s = stepE (Kf s) Tm (m : Int) := fun s hs => by rw [stepK_lt hs, hT]
              refine ⟨m', _, _, _, _, _, hz, hlm', ?_, ?_, rfl⟩
              · rw [hk]
                exact k4.sub (fun s z => ⟨z.1, by omega⟩) fun s z => by rw [if_pos (by omega), hstep s (by omega)]
              · rw [hk]
                intro s hs hsm t q hq
                rw [hstep s (by omega)] at hq
                exact hz4 s hs (by omega) (by omega) t q hq
        · intro hn H3 x k3 n3 e3
          refine qe (fun z => hn ⟨fun l hl => ?_, fun t q hq _ => ?_⟩) H3 x (s1.trans fun c u hc => k3 c u (fun z => by rw [z, fra] at hc; cases hc) (kn.sm _ _ hc)) (fresh_of s1 (fresh_of kn.sm n3)) e3
          · have := mad.loop l hl
            omega
          · have := mad.slv t q hq
            omega
      · rintro σ H' ⟨m, _, _, _, _, _, hxm, _⟩
        rw [List.length_map] at hxm
        rw [List.getElem?_eq_none (Nat.le_refl _)] at hxm
        cases hxm
end
end K15
namespace K15
open PySem PySem.Spec PyProof.Rows L2
local macro_rules | `(tactic| walk_at "con") => `(tactic| first | with_reducible refine Gx.conE K15.ks0 ?_ | with_reducible refine Gx.conE K15.ks1 ?_ | with_reducible refine Gx.conE K15.ks2 ?_ | with_reducible refine Gx.conE K15.ks3 ?_ | with_reducible refine Gx.conE K15.ks4 ?_ | with_reducible refine Gx.conE K15.ks5 ?_ | with_reducible refine Gx.conE K15.ks6 ?_ | with_reducible refine Gx.conE K15.ks7 ?_ | with_reducible refine Gx.conE K15.ks8 ?_ | with_reducible refine Gx.conE K15.ks9 ?_ | with_reducible refine Gx.conE K15.ks10 ?_ | with_reducible refine Gx.conE K15.ks11 ?_ | with_reducible refine Gx.conE K15.ks12 ?_ | with_reducible refine Gx.conE K15.ks13 ?_ | with_reducible refine Gx.conE K15.ks14 ?_ | with_reducible refine Gx.conE K15.ks15 ?_)
section
variable {P : Program} {w : World} {K : PySem.W.Frag} {mg : Str → Option Value} {base : Heap}
/-- an automaton of at most six states, made here -/
def sp_drawn (K : PySem.W.Frag) (need : Nat) : Sp := fun vs H Q _ => ∃ (p : Addr) (xs : List Int) (first : Int), vs = [.ref p, .int first] ∧ SqL K H p (xs.map V.int) ∧ 0 ≤ first ∧ first + need ≤ xs.length ∧
  ∀ (H' : Hp) (u a f : Addr) (rows : List (List Nat)) (fin : List Bool), Same H H' → H' u = some (.tup [.ref a, .ref f]) → LsAt K H' a rows → SqL K H' f (fin.map V.bl) → Five rows → rows.length ≤ 6 → fin.length = rows.length → Q (.ref u) H'
/-- rows so far -/
def RowsP (H : Hp) (D : Addr) (n m : Nat) : Prop := ∃ rs : List (List Nat), LsP H D (rs.map fun row => row.map fun n => V.int (n : Nat)) ∧ rs.length = n ∧ ∀ row ∈ rs, row.length = 5 ∧ ∀ t ∈ row, t < m
theorem RowsP.snoc {H H' : Hp} {D E : Addr} {n m : Nat} {row : List Nat} (h : RowsP H D n m) (e : Same H H') (nE : H E = none) (hE : H' E = some (.lst (row.map fun n => V.int (n : Nat)))) (l5 : row.length = 5) (lt : ∀ t ∈ row, t < m) :
    ∃ acc, H' D = some (.lst acc) ∧ acc.length = n ∧ RowsP (upd H' D (.lst (acc ++ [.ref E]))) D (n + 1) m := by
  obtain ⟨rs, m2, rl, rok⟩ := h
  obtain ⟨acc, h1, h2, h3⟩ := m2.snoc e nE hE
  rw [List.length_map] at h2
  refine ⟨acc, h1, by omega, rs ++ [row], by rw [List.map_append]; exact h3, by rw [List.length_append, rl]; rfl, fun r hr => ?_⟩
  rcases List.mem_append.mp hr with h | h
  · exact rok r h
  · cases List.mem_singleton.mp h
    exact ⟨l5, lt⟩
theorem RowsP.at_ {H : Hp} {D : Addr} {n m : Nat} (h : RowsP H D n m) : ∃ acc, H D = some (.lst acc) := by
  obtain ⟨rs, m2, _⟩ := h
  obtain ⟨vs, e, _⟩ := m2.at_
  exact ⟨vs, e⟩
theorem RowsP.same {H H' : Hp} {D : Addr} {n m : Nat} (h : RowsP H D n m) (e : Same H H') : RowsP H' D n m := let ⟨rs, m2, a⟩ := h; ⟨rs, m2.same e, a⟩
theorem RowsP.five {H : Hp} {D : Addr} {n : Nat} (hn : 0 < n) (h : RowsP H D n n) : ∃ rows, LsAt K H D rows ∧ Five rows ∧ rows.length = n := by
  obtain ⟨rs, m2, rl, rok⟩ := h
  refine ⟨rs, m2.lsAt, ⟨by omega, fun s hs => ?_⟩, rl⟩
  have := rok _ (List.mem_of_getElem? (row_get hs))
  rw [rl]
  exact this
set_option maxHeartbeats 2000000 in
theorem G__law_drawn (T : Txt K mg w) : FnOk P w K mg base CX0 2 T.f__law_drawn T.fd__law_drawn ["numbers", "first"] (sp_drawn K 32) := by
  have G__law_pick := G__law_pick (P := P) (w := w) (base := base) T
  refine T.F__law_drawn.ok sc__law_drawn (fun vs H Q E h => ?_) (fun cdv A outer s H vs Q E hr h => ?_)
  · obtain ⟨p, xs, first, rfl, _⟩ := h
    rfl
  · obtain ⟨p, xs, first, rfl, hX, h0, hxl, q⟩ := h
    refine ⟨_, ((pss_cons (ps_set (i := 2) sc__law_drawn.nd rfl (Or.inl rfl) (pe_call G__law_pick (hr.mono (by first | decide | omega)) (by rfl) T.g__law_pick T.F__law_pick.kp T.b__law_pick .nil pass0 (pa_cons (pv 0) (pa_cons (pv 1) (pa_cons pe_int pa_nil)))))
  (pss_cons (ps_set (i := 3) sc__law_drawn.nd rfl (Or.inr rfl) (pe_op op_add (pe_op op_add pe_int (pe_call G__law_pick (hr.mono (by first | decide | omega)) (by rfl) T.g__law_pick T.F__law_pick.kp T.b__law_pick .nil pass0 (pa_cons (pv 0) (pa_cons (pe_op op_add (pv 1) pe_int) (pa_cons pe_int pa_nil))))) (pe_callTy Gx.cr_int1 (by rfl) T.z_int bt_int (pa_cons (pe_cmpR op_gt (pv 2) pe_int (nomark _)) pa_nil))))
  (pss_cons (ps_set (i := 4) sc__law_drawn.nd rfl (Or.inr rfl) (pe_op op_mul (pv 3) (pe_ix ix_list (pe_lst (pa_cons pe_int (pa_cons pe_int (pa_cons pe_int (pa_cons pe_int pa_nil))))) (pv 2) (fun _ _ => rfl))))
  (pss_cons (ps_set (i := 5) sc__law_drawn.nd rfl (Or.inl rfl) (pe_lst pa_nil))
  (pss_cons (ps_for PassesOwn.never rfl (pi_range1 rfl T.z_range (pa_cons (pv 3) pa_nil)) (pg_name (i := 6) sc__law_drawn.nd rfl (Or.inr rfl))
  (pss_cons (ps_setLc (i := 7) (own := [("k", 8)]) (g := (gName 8)) (tt := tYes) rfl sc__law_drawn.nd rfl rfl (sw_true rfl rfl rfl (by decide +kernel)) (pi_range1 rfl T.z_range (pa_cons pe_int pa_nil)) (blkOk_by (N := ["numbers", "first", "kind", "base", "wide", "rows", "state", "drawn", "k", "target", "finals"]) (sc := defScope s__law_drawn) (by decide +kernel)) (fun _ _ _ _ _ => (pg_name (i := 8) sc__law_drawn.nd rfl (Or.inl rfl))) (fun _ _ _ _ _ => pts_nil) (fun _ _ _ _ _ => (pe_call G__law_pick (hr.mono (by first | decide | omega)) (by rfl) T.g__law_pick T.F__law_pick.kp T.b__law_pick .nil pass0 (pa_cons (pv 0) (pa_cons (pe_op op_add (pe_op op_add (pe_op op_add (pv 1) pe_int) (pe_op op_mul pe_int (pv 6))) (pv 8)) (pa_cons (pv 4) pa_nil))))))
  (pss_one (ps_expr (pe_bm PySem.F.plainAttrs_list PySem.F.slot_list_append PySem.F.type_list_append mt_append (pv 5) (pa_cons (pe_lc (own := [("target", 9)]) (g := (gName 9)) (tt := tYes) (by rfl) sc__law_drawn.nd (pi_list (pv 7)) (blkOk_by (N := ["numbers", "first", "kind", "base", "wide", "rows", "state", "drawn", "k", "target", "finals"]) (sc := defScope s__law_drawn) (by decide +kernel)) (fun _ _ _ _ _ => (pg_name (i := 9) sc__law_drawn.nd rfl (Or.inl rfl))) (fun _ _ _ _ _ => pts_nil) (fun _ _ _ _ _ => (pe_callB (Gx.cr_min2 rfl) (by rfl) T.z_min bt_min (pa_cons (pv 9) (pa_cons (pv 3) pa_nil))))) pa_nil))))))
  (pss_cons (ps_expr (pe_bm PySem.F.plainAttrs_list PySem.F.slot_list_append PySem.F.type_list_append mt_append (pv 5) (pa_cons (pe_lst (pa_cons (pv 3) (pa_cons (pv 3) (pa_cons (pv 3) (pa_cons (pv 3) (pa_cons (pv 3) pa_nil)))))) pa_nil)))
  (pss_cons (ps_setLc (i := 10) (own := [("state", 6)]) (g := (gName 6)) (tt := tYes) rfl sc__law_drawn.nd rfl rfl (sw_true rfl rfl rfl (by decide +kernel)) (pi_range1 rfl T.z_range (pa_cons (pv 3) pa_nil)) (blkOk_by (N := ["numbers", "first", "kind", "base", "wide", "rows", "state", "drawn", "k", "target", "finals"]) (sc := defScope s__law_drawn) (by decide +kernel)) (fun _ _ _ _ _ => (pg_name (i := 6) sc__law_drawn.nd rfl (Or.inl rfl))) (fun _ _ _ _ _ => pts_nil) (fun _ _ _ _ _ => (pe_cmpR op_eq (pe_call G__law_pick (hr.mono (by first | decide | omega)) (by rfl) T.g__law_pick T.F__law_pick.kp T.b__law_pick .nil pass0 (pa_cons (pv 0) (pa_cons (pe_op op_add (pe_op op_add (pv 1) pe_int) (pv 6)) (pa_cons pe_int pa_nil)))) pe_int (nomark _))))
  (pss_one (ps_ret (pe_tup (pa_cons (pv 5) (pa_cons (pe_op op_cat (pv 10) (pe_lst (pa_cons pe_bl pa_nil))) pa_nil))))))))))))), ?_⟩
    clear G__law_pick
    rw [st__law_drawn]
    try dsimp only [cxOf]
    walk_at "g"
    refine ⟨p, xs, _, _, rfl, hX, by omega, by omega, by omega, ?_⟩
    generalize hv0 : pk0 xs _ _ = v0
    have hv0' : v0 < 4 := by rw [← hv0]; exact pk0_lt xs _ (by decide)
    clear hv0
    walk_at "g"
    refine ⟨p, xs, _, _, rfl, hX, by omega, by omega, by omega, ?_⟩
    generalize hv1 : pk0 xs _ _ = v1
    have hv1' : v1 < 4 := by rw [← hv1]; exact pk0_lt xs _ (by decide)
    clear hv1
    walk_at "g"
    obtain ⟨b0, hb0, hb1, hb5⟩ : ∃ b0 : Nat, (1 + (v1 : Int) + if decide ((0 : Int) < v0) = true then 1 else 0) = (b0 : Int) ∧ 0 < b0 ∧ b0 ≤ 5 := by
      by_cases z : (0 : Int) < v0
      · rw [if_pos (decide_eq_true z)]
        exact ⟨v1 + 2, by omega, by omega, by omega⟩
      · rw [if_neg (by simp; omega)]
        exact ⟨v1 + 1, by omega, by omega, by omega⟩
    rw [hb0]
    clear hb0 hv1'
    refine Gx.newL (by show 4 ≤ 16777216; decide) fun pw H1 E1 => ?_
    walk_at "g"
    obtain ⟨w0, hw0, hw1, hw3⟩ : ∃ w0 : Nat, ([V.int 1, V.int 2, V.int 3, V.int 1] : List V)[v0]? = some (.int (w0 : Int)) ∧ 0 < w0 ∧ w0 ≤ 3 := by
      have : v0 = 0 ∨ v0 = 1 ∨ v0 = 2 ∨ v0 = 3 := by omega
      rcases this with rfl | rfl | rfl | rfl
      · exact ⟨1, rfl, by decide, by decide⟩
      · exact ⟨2, rfl, by decide, by decide⟩
      · exact ⟨3, rfl, by decide, by decide⟩
      · exact ⟨1, rfl, by decide, by decide⟩
    refine Gx.ixL (SqL.of E1.at_) (Gx.atI_of (k := v0) rfl hw0) ?_
    walk_at "g"
    have hwide : (b0 : Int) * (w0 : Int) = ((b0 * w0 : Nat) : Int) := by rw [Int.natCast_mul]
    have hwp : 0 < b0 * w0 := Nat.mul_pos hb1 hw1
    rw [hwide]
    refine Gx.newL (by show 0 ≤ 16777216; decide) fun D H2 E2 => ?_
    have s2 := E1.same.trans E2.same
    have nD : H D = none := fresh_of E1.same E2.fresh
    have eD := E2.at_
    walk_at "g"
    refine ⟨_, rfl, by omega, by omega, for_range (lo := 0) (n := ((b0 : Nat) : Int).toNat) (fun i σ H' => ∃ y6 y7 y8 y9 y10 : Option V, Same H H' ∧ RowsP H' D i (b0 + 1) ∧ σ = [some (.ref p), some (.int first), some (.int v0), some (.int b0), some (.int ((b0 * w0 : Nat) : Int)), some (.ref D), y6, y7, y8, y9, y10]) ⟨_, _, _, _, _, s2, ⟨[], .nil eD, rfl, fun row h => by cases h⟩, rfl⟩ ?_ ?_⟩
    · rintro i σ H3 hi ⟨y6, y7, y8, y9, y10, s3, rp, rfl⟩
      walk_at "g"
      refine ⟨_, rfl, by omega, by omega, fun E nE => lc_range (lo := 0) (n := (5 : Int).toNat) (fun j H' => Same H3 H' ∧ ∃ r : List Nat, H' E = some (.lst (r.map fun n => V.int (n : Nat))) ∧ r.length = j) ⟨Gx.Same.put (Same.refl H3) nE, [], upd_same, rfl⟩ ?_ ?_⟩
      · rintro j H4 hj ⟨s4, r, e4, rl4⟩
        have hj' : j < 5 := hj
        walk_at "g"
        refine ⟨rfl, ?_⟩
        walk_at "g"
        refine ⟨p, xs, _, _, rfl, (s3.trans s4).seq hX, by omega, by omega, by omega, ?_⟩
        generalize hv : pk0 xs _ _ = v
        refine ⟨_, e4, Gx.lineL (by rw [List.length_map]; omega), Gx.Same.put s4 nE, r ++ [v], by rw [upd_same, List.map_append]; rfl, by rw [List.length_append, rl4]; rfl⟩
      · rintro H4 ⟨s4, r, e4, rl4⟩
        have rp4 := rp.same s4
        obtain ⟨acc4, eD4⟩ := rp4.at_
        have rl5 : r.length = 5 := rl4
        walk_at "g"
        have hE4 := SqL.of (K := K) e4
        refine ⟨⟨_, hE4⟩, fun E2 nE2 => lc_list (xs := r.map fun n => V.int (n : Nat)) (fun j H' => Same H4 H' ∧ H' E2 = some (.lst (((r.take j).map fun n => min n b0).map fun n => V.int (n : Nat)))) ⟨Gx.Same.put (Same.refl H4) nE2, upd_same⟩ (fun j H' _ z => z.1.seq hE4) ?_ ?_⟩
        · rintro j x H5 hj ⟨s5, e5⟩
          rw [List.getElem?_map] at hj
          obtain ⟨n, hn, rfl⟩ := Option.map_eq_some_iff.mp hj
          walk_at "g"
          refine ⟨rfl, ?_⟩
          walk_at "g"
          have hmin : (if (b0 : Int) < (n : Int) then (b0 : Int) else (n : Int)) = ((min n b0 : Nat) : Int) := by
            by_cases z : b0 < n
            · rw [if_pos (by omega), Nat.min_eq_right (by omega)]
            · rw [if_neg (by omega), Nat.min_eq_left (by omega)]
          have hjl := (List.getElem?_eq_some_iff.mp hn).1
          refine ⟨_, e5, Gx.lineL (by rw [List.length_map, List.length_map, List.length_take]; omega), Gx.Same.put s5 nE2, ?_⟩
          rw [upd_same, hmin, List.take_add_one, hn, Option.toList_some, List.map_append, List.map_append]
          rfl
        · rintro H5 ⟨s5, e5⟩
          have e5 : H5 E2 = some (.lst ((r.map fun n => min n b0).map fun n => V.int (n : Nat))) := by
            rw [List.take_of_length_le (by rw [List.length_map]; exact Nat.le_refl _)] at e5
            exact e5
          obtain ⟨acc, eD5, la, rp5⟩ := rp4.snoc s5 nE2 e5 (by rw [List.length_map]; exact rl5) (fun t ht => by
            obtain ⟨n, _, rfl⟩ := List.mem_map.mp ht
            omega)
          refine Gx.anil ?_
          refine Gx.app eD5 (by rw [sizeLine_eq]; omega) ?_
          walk_at "g"
          refine ⟨_, _, _, _, _, Gx.Same.put ((s3.trans s4).trans s5) nD, rp5, rfl⟩
    · rintro σ H3 ⟨y6, y7, y8, y9, y10, s3, rp, rfl⟩
      obtain ⟨acc3, eD3⟩ := rp.at_
      walk_at "g"
      refine Gx.newL (by show 5 ≤ 16777216; decide) fun E H4 E4 => ?_
      obtain ⟨acc, eD4, _, rp4⟩ := rp.snoc E4.same E4.fresh (row := [b0, b0, b0, b0, b0]) E4.at_ rfl (fun t ht => by
        have : t = b0 := by simpa using ht
        omega)
      refine Gx.anil ?_
      refine Gx.app eD4 (by rw [sizeLine_eq]; omega) ?_
      have s4 : Same H (upd H4 D (.lst (acc ++ [.ref E]))) := Gx.Same.put (s3.trans E4.same) nD
      obtain ⟨rows, hR, five, hrl⟩ := rp4.five (K := K) (by omega)
      generalize (upd H4 D (.lst (acc ++ [.ref E]))) = Hd at s4 hR ⊢
      walk_at "g"
      have hXd := s4.seq hX
      refine ⟨_, rfl, by omega, by omega, fun D2 nD2 => lc_range (lo := 0) (n := ((b0 : Nat) : Int).toNat) (fun j H' => Same Hd H' ∧ ∃ bs : List Bool, H' D2 = some (.lst (bs.map V.bl)) ∧ bs.length = j) ⟨Gx.Same.put (Same.refl Hd) nD2, [], upd_same, rfl⟩ ?_ ?_⟩
      · rintro j H5 hj ⟨s5, bs, e5, bl⟩
        walk_at "g"
        refine ⟨rfl, ?_⟩
        walk_at "g"
        refine ⟨p, xs, _, _, rfl, s5.seq hXd, by omega, by omega, by omega, ?_⟩
        generalize pk0 xs _ _ = v
        walk_at "g"
        refine ⟨_, e5, Gx.lineL (by rw [List.length_map]; omega), Gx.Same.put s5 nD2, bs ++ [_], by rw [upd_same, List.map_append]; rfl, by rw [List.length_append, bl]; rfl⟩
      · rintro H5 ⟨s5, bs, e5, bl⟩
        walk_at "g"
        refine Gx.newL (by show 1 ≤ 16777216; decide) fun pf H6 E6 => ?_
        refine Gx.cat1 (E6.same _ _ e5) E6.at_ (by rw [List.length_map]; show bs.length + 1 ≤ 16777216; omega) fun ph H7 E7 => ?_
        have e7 : H7 ph = some (.lst ((bs ++ [false]).map V.bl)) := by rw [List.map_append]; exact E7.at_
        have s57 := E6.same.trans E7.same
        walk_at "g"
        refine Gx.newT (by show 2 ≤ 16777216; decide) fun u H8 E8 => ?_
        have s8 := s5.trans (s57.trans E8.same)
        exact q H8 u D ph rows (bs ++ [false]) (s4.trans s8) E8.at_ (hR.same s8) (SqL.of (E8.same _ _ e7)) five (by omega) (by rw [List.length_append, bl, hrl]; show ((b0 : Nat) : Int).toNat + 1 = _; omega)
set_option maxHeartbeats 2000000 in
theorem G__law_ladder (T : Txt K mg w) : FnOk P w K mg base CX0 2 T.f__law_ladder T.fd__law_ladder ["numbers", "first"] (sp_drawn K 37) := by
  have G__law_pick := G__law_pick (P := P) (w := w) (base := base) T
  refine T.F__law_ladder.ok sc__law_ladder (fun vs H Q E h => ?_) (fun cdv A outer s H vs Q E hr h => ?_)
  · obtain ⟨p, xs, first, rfl, _⟩ := h
    rfl
  · obtain ⟨p, xs, first, rfl, hX, h0, hxl, q⟩ := h
    refine ⟨_, ((pss_cons (ps_set (i := 2) sc__law_ladder.nd rfl (Or.inl rfl) (pe_op op_add pe_int (pe_call G__law_pick (hr.mono (by first | decide | omega)) (by rfl) T.g__law_pick T.F__law_pick.kp T.b__law_pick .nil pass0 (pa_cons (pv 0) (pa_cons (pe_op op_add (pv 1) pe_int) (pa_cons pe_int pa_nil))))))
  (pss_cons (ps_set (i := 3) sc__law_ladder.nd rfl (Or.inl rfl) (pe_lst pa_nil))
  (pss_cons (ps_for PassesOwn.never rfl (pi_range1 rfl T.z_range (pa_cons (pv 2) pa_nil)) (pg_name (i := 4) sc__law_ladder.nd rfl (Or.inl rfl))
  (pss_cons (ps_set (i := 5) sc__law_ladder.nd rfl (Or.inl rfl) (pe_lst pa_nil))
  (pss_cons (ps_set (i := 6) sc__law_ladder.nd rfl (Or.inl rfl) (pe_cmpR op_eq (pe_call G__law_pick (hr.mono (by first | decide | omega)) (by rfl) T.g__law_pick T.F__law_pick.kp T.b__law_pick .nil pass0 (pa_cons (pv 0) (pa_cons (pe_op op_add (pe_op op_add (pv 1) pe_int) (pv 4)) (pa_cons pe_int pa_nil)))) pe_int (nomark _)))
  (pss_cons (ps_for PassesOwn.never rfl (pi_range1 rfl T.z_range (pa_cons pe_int pa_nil)) (pg_name (i := 7) sc__law_ladder.nd rfl (Or.inl rfl))
  (pss_cons (ps_set (i := 8) sc__law_ladder.nd rfl (Or.inl rfl) (pe_call G__law_pick (hr.mono (by first | decide | omega)) (by rfl) T.g__law_pick T.F__law_pick.kp T.b__law_pick .nil pass0 (pa_cons (pv 0) (pa_cons (pe_op op_add (pe_op op_add (pe_op op_add (pv 1) pe_int) (pe_op op_mul pe_int (pv 4))) (pv 7)) (pa_cons pe_int pa_nil)))))
  (pss_cons (ps_set (i := 9) sc__law_ladder.nd rfl (Or.inl rfl) (pv 2))
  (C8.pss_cut (ps_if (PW.pt (pw_or (pt_cmpR op_eq (pv 8) pe_int (nomark _)) (pw_or1 (pt_cmpR op_eq (pv 8) pe_int (nomark _)))))
  (pss_one (ps_set (i := 9) sc__law_ladder.nd rfl (Or.inl rfl) (pv 4)))
  pss_nil)
  (C8.pss_cut (ps_if (PW.pt (pw_or (pt_cmpR op_eq (pv 8) pe_int (nomark _)) (pw_or1 (pt_cmpR op_eq (pv 8) pe_int (nomark _)))))
  (pss_one (ps_set (i := 9) sc__law_ladder.nd rfl (Or.inl rfl) (pe_callB (Gx.cr_min2 rfl) (by rfl) T.z_min bt_min (pa_cons (pe_op op_add (pv 4) pe_int) (pa_cons (pe_op op_sub (pv 2) pe_int) pa_nil)))))
  pss_nil)
  (C8.pss_cut (ps_if (PW.pt (pw_and (pt_cmpR op_eq (pv 8) pe_int (nomark _)) (pw_and1 (pt_val (pv 6)))))
  (pss_one (ps_set (i := 9) sc__law_ladder.nd rfl (Or.inl rfl) pe_int))
  pss_nil)
  (pss_one (ps_expr (pe_bm PySem.F.plainAttrs_list PySem.F.slot_list_append PySem.F.type_list_append mt_append (pv 5) (pa_cons (pv 9) pa_nil))))))))))
  (pss_one (ps_expr (pe_bm PySem.F.plainAttrs_list PySem.F.slot_list_append PySem.F.type_list_append mt_append (pv 3) (pa_cons (pv 5) pa_nil))))))))
  (pss_cons (ps_expr (pe_bm PySem.F.plainAttrs_list PySem.F.slot_list_append PySem.F.type_list_append mt_append (pv 3) (pa_cons (pe_lst (pa_cons (pv 2) (pa_cons (pv 2) (pa_cons (pv 2) (pa_cons (pv 2) (pa_cons (pv 2) pa_nil)))))) pa_nil)))
  (pss_cons (ps_setLc (i := 10) (own := [("state", 4)]) (g := (gName 4)) (tt := tYes) rfl sc__law_ladder.nd rfl rfl (sw_true rfl rfl rfl (by decide +kernel)) (pi_range1 rfl T.z_range (pa_cons (pv 2) pa_nil)) (blkOk_by (N := ["numbers", "first", "base", "rows", "state", "row", "back", "k", "pick", "target", "finals"]) (sc := defScope s__law_ladder) (by decide +kernel)) (fun _ _ _ _ _ => (pg_name (i := 4) sc__law_ladder.nd rfl (Or.inl rfl))) (fun _ _ _ _ _ => pts_nil) (fun _ _ _ _ _ => (pe_cmpR op_eq (pe_call G__law_pick (hr.mono (by first | decide | omega)) (by rfl) T.g__law_pick T.F__law_pick.kp T.b__law_pick .nil pass0 (pa_cons (pv 0) (pa_cons (pe_op op_add (pe_op op_add (pv 1) pe_int) (pv 4)) (pa_cons pe_int pa_nil)))) pe_int (nomark _))))
  (pss_cons (ps_asg pe_bl (pg_sub (pv 10) (pe_op op_sub (pv 2) pe_int) set_list))
  (pss_one (ps_ret (pe_tup (pa_cons (pv 3) (pa_cons (pe_op op_cat (pv 10) (pe_lst (pa_cons pe_bl pa_nil))) pa_nil)))))))))))), ?_⟩
    clear G__law_pick
    rw [st__law_ladder]
    try dsimp only [cxOf]
    walk_at "g"
    refine ⟨p, xs, _, _, rfl, hX, by omega, by omega, by omega, ?_⟩
    generalize hv1 : pk0 xs _ _ = v1
    have hv1' : v1 < 4 := by rw [← hv1]; exact pk0_lt xs _ (by decide)
    clear hv1
    walk_at "g"
    obtain ⟨b0, hb0, hb1, hb5⟩ : ∃ b0 : Nat, (2 + (v1 : Int)) = (b0 : Int) ∧ 2 ≤ b0 ∧ b0 ≤ 5 := ⟨v1 + 2, by omega, by omega, by omega⟩
    rw [hb0]
    clear hb0 hv1'
    refine Gx.newL (by show 0 ≤ 16777216; decide) fun D H2 E2 => ?_
    have nD : H D = none := E2.fresh
    have eD := E2.at_
    walk_at "g"
    refine ⟨_, rfl, by omega, by omega, for_range (lo := 0) (n := ((b0 : Nat) : Int).toNat) (fun i σ H' => ∃ y4 y5 y6 y7 y8 y9 y10 : Option V, Same H H' ∧ RowsP H' D i (b0 + 1) ∧ σ = [some (.ref p), some (.int first), some (.int b0), some (.ref D), y4, y5, y6, y7, y8, y9, y10]) ⟨_, _, _, _, _, _, _, E2.same, ⟨[], .nil eD, rfl, fun row h => by cases h⟩, rfl⟩ ?_ ?_⟩
    · rintro i σ H3 hi ⟨y4, y5, y6, y7, y8, y9, y10, s3, rp, rfl⟩
      walk_at "g"
      refine Gx.newL (by show 0 ≤ 16777216; decide) fun E H4 E4 => ?_
      walk_at "g"
      refine ⟨p, xs, _, _, rfl, (s3.trans E4.same).seq hX, by omega, by omega, by omega, ?_⟩
      generalize pk0 xs _ _ = vb
      walk_at "g"
      have nE := E4.fresh
      refine ⟨_, rfl, by omega, by omega, for_range (lo := 0) (n := (5 : Int).toNat) (fun j σ H' => ∃ (r : List Nat) (bk : Bool) (y7 y8 y9 : Option V), Same H3 H' ∧ H' E = some (.lst (r.map fun n => V.int (n : Nat))) ∧ r.length = j ∧ (∀ t ∈ r, t < b0 + 1) ∧ σ = [some (.ref p), some (.int first), some (.int b0), some (.ref D), some (.int (0 + i)), some (.ref E), some (.bl bk), y7, y8, y9, y10]) ⟨[], _, _, _, _, E4.same, E4.at_, rfl, (fun t h => by cases h), rfl⟩ ?_ ?_⟩
      · rintro j σ H5 hj ⟨r, bk, y7, y8, y9, s5, e5, rl5, rlt, rfl⟩
        have hj' : j < 5 := hj
        walk_at "g"
        refine ⟨p, xs, _, _, rfl, (s3.trans s5).seq hX, by omega, by omega, by omega, ?_⟩
        generalize pk0 xs _ _ = v
        walk_at "g"
        have hi' : i < b0 := by omega
        have ok0 : ∀ t : Nat, t < b0 + 1 → ∃ t' : Nat, t' < b0 + 1 ∧ [some (V.ref p), some (.int first), some (.int b0), some (.ref D), some (.int (0 + i)), some (.ref E), some (.bl bk), some (.int (0 + j)), some (.int v), some (.int (t : Nat)), y10] = [some (V.ref p), some (.int first), some (.int b0), some (.ref D), some (.int (0 + i)), some (.ref E), some (.bl bk), some (.int (0 + j)), some (.int v), some (.int (t' : Nat)), y10] := fun t h => ⟨t, h, rfl⟩
        refine ⟨fun σ H' => H' = H5 ∧ ∃ t : Nat, t < b0 + 1 ∧ σ = [some (.ref p), some (.int first), some (.int b0), some (.ref D), some (.int (0 + i)), some (.ref E), some (.bl bk), some (.int (0 + j)), some (.int v), some (.int (t : Nat)), y10], ?_, ?_⟩
        · walk_at "g"
          refine Gx.iteD (fun _ => ?_) (fun _ => ?_)
          · walk_at "g"
            refine ⟨rfl, i, by omega, by rw [Int.zero_add]⟩
          · walk_at "g"
            refine Gx.iteD (fun _ => ?_) (fun _ => ?_)
            · walk_at "g"
              refine ⟨rfl, i, by omega, by rw [Int.zero_add]⟩
            · walk_at "g"
              exact ⟨rfl, b0, by omega, rfl⟩
        rintro σ H6 ⟨rfl, t, ht, rfl⟩
        clear ok0
        refine ⟨fun σ H' => H' = H6 ∧ ∃ t : Nat, t < b0 + 1 ∧ σ = [some (.ref p), some (.int first), some (.int b0), some (.ref D), some (.int (0 + i)), some (.ref E), some (.bl bk), some (.int (0 + j)), some (.int v), some (.int (t : Nat)), y10], ?_, ?_⟩
        · have key : (if ((b0 : Int) - 1) < (0 + (i : Int) + 1) then ((b0 : Int) - 1) else (0 + (i : Int) + 1)) = ((min (i + 1) (b0 - 1) : Nat) : Int) := by
            by_cases z : b0 - 1 < i + 1
            · rw [if_pos (by omega), Nat.min_eq_right (by omega)]; omega
            · rw [if_neg (by omega), Nat.min_eq_left (by omega)]; omega
          walk_at "g"
          refine Gx.iteD (fun _ => ?_) (fun _ => ?_)
          · walk_at "g"
            rw [key]
            exact ⟨rfl, _, by omega, rfl⟩
          · walk_at "g"
            refine Gx.iteD (fun _ => ?_) (fun _ => ?_)
            · walk_at "g"
              rw [key]
              exact ⟨rfl, _, by omega, rfl⟩
            · walk_at "g"
              exact ⟨rfl, t, ht, rfl⟩
        rintro σ H7 ⟨rfl, t, ht, rfl⟩
        refine ⟨fun σ H' => H' = H7 ∧ ∃ t : Nat, t < b0 + 1 ∧ σ = [some (.ref p), some (.int first), some (.int b0), some (.ref D), some (.int (0 + i)), some (.ref E), some (.bl bk), some (.int (0 + j)), some (.int v), some (.int (t : Nat)), y10], ?_, ?_⟩
        · walk_at "g"
          refine Gx.iteD (fun _ => ?_) (fun _ => ?_)
          · walk_at "g"
            refine Gx.iteB (fun _ => ?_) (fun _ => ?_)
            · walk_at "g"
              exact ⟨rfl, 0, by omega, rfl⟩
            · walk_at "g"
              exact ⟨rfl, t, ht, rfl⟩
          · walk_at "g"
            exact ⟨rfl, t, ht, rfl⟩
        rintro σ H8 ⟨rfl, t, ht, rfl⟩
        walk_at "g"
        refine Gx.app e5 (by rw [List.length_map, sizeLine_eq]; omega) ?_
        refine ⟨r ++ [t], bk, _, _, _, Gx.Same.put s5 nE, by rw [upd_same, List.map_append]; rfl, by rw [List.length_append, rl5]; rfl, fun x hx => ?_, rfl⟩
        rcases List.mem_append.mp hx with h | h
        · exact rlt x h
        · cases List.mem_singleton.mp h
          exact ht
      · rintro σ H5 ⟨r, bk, y7, y8, y9, s5, e5, rl5, rlt, rfl⟩
        have rp5 := rp.same s5
        obtain ⟨acc5, eD5⟩ := rp5.at_
        obtain ⟨acc, eD6, la, rp6⟩ := rp.snoc s5 nE e5 rl5 rlt
        walk_at "g"
        exact ⟨_, _, _, _, _, _, _, Gx.Same.put (s3.trans s5) nD, rp6, rfl⟩
    · rintro σ H3 ⟨y4, y5, y6, y7, y8, y9, y10, s3, rp, rfl⟩
      obtain ⟨acc3, eD3⟩ := rp.at_
      walk_at "g"
      refine Gx.newL (by show 5 ≤ 16777216; decide) fun E H4 E4 => ?_
      obtain ⟨acc, eD4, _, rp4⟩ := rp.snoc E4.same E4.fresh (row := [b0, b0, b0, b0, b0]) E4.at_ rfl (fun t ht => by
        have : t = b0 := by simpa using ht
        omega)
      refine Gx.anil ?_
      refine Gx.app eD4 (by rw [sizeLine_eq]; omega) ?_
      have s4 : Same H (upd H4 D (.lst (acc ++ [.ref E]))) := Gx.Same.put (s3.trans E4.same) nD
      obtain ⟨rows, hR, five, hrl⟩ := rp4.five (K := K) (by omega)
      generalize (upd H4 D (.lst (acc ++ [.ref E]))) = Hd at s4 hR ⊢
      walk_at "g"
      have hXd := s4.seq hX
      refine ⟨_, rfl, by omega, by omega, fun D2 nD2 => lc_range (lo := 0) (n := ((b0 : Nat) : Int).toNat) (fun j H' => Same Hd H' ∧ ∃ bs : List Bool, H' D2 = some (.lst (bs.map V.bl)) ∧ bs.length = j) ⟨Gx.Same.put (Same.refl Hd) nD2, [], upd_same, rfl⟩ ?_ ?_⟩
      · rintro j H5 hj ⟨s5, bs, e5, bl⟩
        walk_at "g"
        refine ⟨rfl, ?_⟩
        walk_at "g"
        refine ⟨p, xs, _, _, rfl, s5.seq hXd, by omega, by omega, by omega, ?_⟩
        generalize pk0 xs _ _ = v
        walk_at "g"
        refine ⟨_, e5, Gx.lineL (by rw [List.length_map]; omega), Gx.Same.put s5 nD2, bs ++ [_], by rw [upd_same, List.map_append]; rfl, by rw [List.length_append, bl]; rfl⟩
      · rintro H5 ⟨s5, bs, e5, bl⟩
        walk_at "g"
        refine Gx.setL (j := b0 - 1) e5 (by omega) (by rw [List.length_map]; omega) ?_
        have e6 : (upd H5 D2 (.lst ((bs.map V.bl).set (b0 - 1) (.bl true)))) D2 = some (.lst ((bs.set (b0 - 1) true).map V.bl)) := by rw [upd_same, List.map_set]
        have s6 : Same Hd (upd H5 D2 (.lst ((bs.map V.bl).set (b0 - 1) (.bl true)))) := Gx.Same.put s5 nD2
        have bl6 : (bs.set (b0 - 1) true).length = b0 := by rw [List.length_set]; omega
        generalize (upd H5 D2 (.lst ((bs.map V.bl).set (b0 - 1) (.bl true)))) = H6 at e6 s6 ⊢
        generalize bs.set (b0 - 1) true = bs2 at e6 bl6
        walk_at "g"
        refine Gx.newL (by show 1 ≤ 16777216; decide) fun pf H7 E7 => ?_
        refine Gx.cat1 (E7.same _ _ e6) E7.at_ (by rw [List.length_map]; show bs2.length + 1 ≤ 16777216; omega) fun ph H8 E8 => ?_
        have e8 : H8 ph = some (.lst ((bs2 ++ [false]).map V.bl)) := by rw [List.map_append]; exact E8.at_
        walk_at "g"
        refine Gx.newT (by show 2 ≤ 16777216; decide) fun u H9 E9 => ?_
        have s9 := s6.trans (E7.same.trans (E8.same.trans E9.same))
        exact q H9 u D ph rows (bs2 ++ [false]) (s4.trans s9) E9.at_ (hR.same s9) (SqL.of (E9.same _ _ e8)) five (by omega) (by rw [List.length_append, bl6, hrl]; rfl)
end
end K15
namespace K15
open PySem PySem.Spec PyProof.Rows L2
local macro_rules | `(tactic| walk_at "con") => `(tactic| first | with_reducible refine Gx.conE K15.ks0 ?_ | with_reducible refine Gx.conE K15.ks1 ?_ | with_reducible refine Gx.conE K15.ks2 ?_ | with_reducible refine Gx.conE K15.ks3 ?_ | with_reducible refine Gx.conE K15.ks4 ?_ | with_reducible refine Gx.conE K15.ks5 ?_ | with_reducible refine Gx.conE K15.ks6 ?_ | with_reducible refine Gx.conE K15.ks7 ?_ | with_reducible refine Gx.conE K15.ks8 ?_ | with_reducible refine Gx.conE K15.ks9 ?_ | with_reducible refine Gx.conE K15.ks10 ?_ | with_reducible refine Gx.conE K15.ks11 ?_ | with_reducible refine Gx.conE K15.ks12 ?_ | with_reducible refine Gx.conE K15.ks13 ?_ | with_reducible refine Gx.conE K15.ks14 ?_ | with_reducible refine Gx.conE K15.ks15 ?_)
section
variable {P : Program} {w : World} {K : PySem.W.Frag} {mg : Str → Option Value} {base : Heap}
/-! ### which states are live -/
def cnt (L : Nat → Bool) : Nat → Nat
  | 0 => 0
  | n + 1 => cnt L n + if L n = true then 1 else 0
theorem cnt_le (L : Nat → Bool) : ∀ n, cnt L n ≤ n
  | 0 => Nat.le_refl _
  | n + 1 => by
    have := cnt_le L n
    unfold cnt
    split <;> omega
theorem cnt_full {L : Nat → Bool} : ∀ n, n ≤ cnt L n → ∀ s, s < n → L s = true
  | 0, _, s, hs => by omega
  | n + 1, h, s, hs => by
    unfold cnt at h
    have h1 := cnt_le L n
    split at h
    · rename_i hl
      by_cases e : s = n
      · rw [e]; exact hl
      · exact cnt_full n (by omega) s (by omega)
    · omega
theorem cnt_mono {L M : Nat → Bool} : ∀ n, (∀ s, s < n → L s = true → M s = true) → cnt L n ≤ cnt M n
  | 0, _ => Nat.le_refl _
  | n + 1, h => by
    have := cnt_mono n fun s hs => h s (by omega)
    unfold cnt
    by_cases e : L n = true
    · rw [if_pos e, if_pos (h n (by omega) e)]; omega
    · rw [if_neg e]; omega
theorem cnt_more {L M : Nat → Bool} : ∀ n, (∀ s, s < n → L s = true → M s = true) → (∃ s, s < n ∧ L s = false ∧ M s = true) → cnt L n < cnt M n
  | 0, _, ⟨s, hs, _⟩ => by omega
  | n + 1, h, ⟨s, hs, a, b⟩ => by
    unfold cnt
    by_cases e : s = n
    · subst e
      have := cnt_mono (L := L) (M := M) s fun t ht => h t (by omega)
      rw [if_neg (by rw [a]; decide), if_pos b]
      omega
    · have := cnt_more n (fun t ht => h t (by omega)) ⟨s, by omega, a, b⟩
      by_cases e2 : L n = true
      · rw [if_pos e2, if_pos (h n (by omega) e2)]; omega
      · rw [if_neg e2]; omega
section
variable {R : List (List Nat)} {F : List Bool}
structure LvP (R : List (List Nat)) (F l : List Bool) : Prop where
  len : l.length = R.length
  snd : ∀ s, s < R.length → l.getD s false = true → Liv R F s
  fin : ∀ s, F.getD s false = true → l.getD s false = true
def LvAll (R : List (List Nat)) (F l : List Bool) : Prop := ∀ s, s < R.length → Liv R F s → l.getD s false = true
def hit (R : List (List Nat)) (l : List Bool) (s : Nat) : Bool := (R.getD s []).any fun t => l.getD t false
theorem LvP.closed (five : Five R) {l : List Bool} (h : LvP R F l) (c : ∀ s, s < R.length → hit R l s = true → l.getD s false = true) : LvAll R F l := fun s hs lv => by
  revert hs
  induction lv with
  | fin e => exact fun _ => h.fin _ e
  | @step a b m _ ih =>
    intro ha
    refine c a ha ?_
    unfold hit
    exact List.any_eq_true.mpr ⟨b, m, ih ((five.2 a ha).2 b m)⟩
theorem getD_set {l : List Bool} {s t : Nat} (hs : s < l.length) : (l.set s true).getD t false = if t = s then true else l.getD t false := by
  rw [List.getD_eq_getElem?_getD, List.getD_eq_getElem?_getD, List.getElem?_set]
  by_cases e : s = t
  · subst e
    rw [if_pos rfl, if_pos rfl, if_pos hs]
    rfl
  · rw [if_neg e, if_neg (fun z => e z.symm)]
/-- within a turn -/
structure Turn (R : List (List Nat)) (F l0 l : List Bool) (j : Nat) : Prop where
  ok : LvP R F l
  up : ∀ s, s < R.length → l0.getD s false = true → l.getD s false = true
  new : ∀ s, s < j → s < R.length → hit R l0 s = true → l.getD s false = true
theorem hit_mono {l0 l : List Bool} (five : Five R) {s : Nat} (hs : s < R.length) (up : ∀ t, t < R.length → l0.getD t false = true → l.getD t false = true) (h : hit R l0 s = true) : hit R l s = true := by
  unfold hit at *
  obtain ⟨t, ht, e⟩ := List.any_eq_true.mp h
  exact List.any_eq_true.mpr ⟨t, ht, up t ((five.2 s hs).2 t ht) e⟩
theorem Turn.step {l0 l : List Bool} {j : Nat} (five : Five R) (hj : j < R.length) (h : Turn R F l0 l j) : Turn R F l0 (if hit R l j = true then l.set j true else l) (j + 1) := by
  have hl := h.ok.len
  by_cases e : hit R l j = true
  · rw [if_pos e]
    have g : ∀ t, (l.set j true).getD t false = if t = j then true else l.getD t false := fun t => getD_set (by omega)
    refine ⟨⟨by rw [List.length_set]; exact hl, fun s hs hse => ?_, fun s hf => ?_⟩, fun s hs hse => ?_, fun s hs hsn hh => ?_⟩
    · rw [g] at hse
      by_cases z : s = j
      · subst z
        obtain ⟨t, ht, et⟩ := List.any_eq_true.mp e
        exact .step ht (h.ok.snd t ((five.2 s hs).2 t ht) et)
      · rw [if_neg z] at hse
        exact h.ok.snd s hs hse
    · rw [g]
      split
      · rfl
      · exact h.ok.fin s hf
    · rw [g]
      split
      · rfl
      · exact h.up s hs hse
    · rw [g]
      split
      · rfl
      · exact h.new s (by omega) hsn hh
  · rw [if_neg e]
    refine ⟨h.ok, h.up, fun s hs hsn hh => ?_⟩
    by_cases z : s = j
    · subst z
      exact absurd (hit_mono five hsn h.up hh) e
    · exact h.new s (by omega) hsn hh
def Turns (R : List (List Nat)) (F l : List Bool) (i : Nat) : Prop := LvP R F l ∧ (LvAll R F l ∨ i ≤ cnt (fun s => l.getD s false) R.length)
theorem Turns.next {l0 l : List Bool} {i : Nat} (five : Five R) (h : Turns R F l0 i) (t : Turn R F l0 l R.length) : Turns R F l (i + 1) := by
  refine ⟨t.ok, ?_⟩
  by_cases z : ∀ s, s < R.length → hit R l0 s = true → l0.getD s false = true
  · exact .inl fun s hs lv => t.up s hs (h.1.closed five z s hs lv)
  · rcases h.2 with h2 | h2
    · exact .inl fun s hs lv => t.up s hs (h2 s hs lv)
    · right
      obtain ⟨s, z⟩ := Classical.not_forall.mp z
      obtain ⟨hs, z⟩ := Classical.not_imp.mp z
      obtain ⟨hh, z⟩ := Classical.not_imp.mp z
      have := cnt_more (L := fun s => l0.getD s false) (M := fun s => l.getD s false) R.length t.up ⟨s, hs, by simpa using z, t.new s hs hs hh⟩
      omega
theorem Turns.all {l : List Bool} (h : Turns R F l R.length) : LvAll R F l := by
  rcases h.2 with z | z
  · exact z
  · exact fun s hs _ => cnt_full R.length z s hs
end
theorem hit_filter (R : List (List Nat)) (l : List Bool) (s : Nat) : decide ((R.getD s []).filter (fun t => l.getD t false) = []) = !hit R l s := by
  unfold hit
  rw [Bool.eq_iff_iff, decide_eq_true_eq, List.filter_eq_nil_iff]
  simp
def intsD (l : List Nat) : PyData := .list (l.map fun n => PyData.int (n : Nat))
theorem shaped_intsD (l : List Nat) : SeqAt.shaped (intsD l) = true := by
  unfold SeqAt.shaped intsD
  rw [PyData.canLay0, can_ints, Bool.true_and]
  refine decide_eq_true ?_
  simp only [PyData.depth, dep_ints]
  omega
theorem eqv_intsD (l l' : List Nat) : PyData.eqv (intsD l) (intsD l') = decide (l = l') := by
  unfold intsD
  rw [PyData.eqv]
  exact eqv_ints l l'
def sp_live (K : PySem.W.Frag) : Sp := fun vs H Q _ => ∃ (x y : V) (R : List (List Nat)) (F : List Bool), vs = [x, y] ∧ Dp K H x (rowsD R) ∧ Dp K H y (finsD F) ∧ Five R ∧ F.length = R.length ∧ R.length ≤ 1000 ∧
  ∀ H' d l, Same H H' → H' d = some (.lst (l.map V.bl)) → LvP R F l → LvAll R F l → Q (.ref d) H'
theorem G__law_live (T : Txt K mg w) : FnOk P w K mg base CX0 1 T.f__law_live T.fd__law_live ["rows", "finals"] (sp_live K) := by
  refine T.F__law_live.ok sc__law_live (fun vs H Q E h => ?_) (fun cdv A outer s H vs Q E hr h => ?_)
  · obtain ⟨x, y, R, F, rfl, _⟩ := h
    rfl
  · obtain ⟨x, y, R, F, rfl, d1, d2, five, hF, hR, q⟩ := h
    obtain ⟨r, xs, rfl, hx, hd⟩ := rowsD_at d1
    obtain ⟨f, rfl, hf⟩ := finsD_at d2
    have hxl : xs.length = R.length := by rw [Gx.dpAll_len hd, List.length_map]
    refine ⟨_, ((pss_cons (ps_set (i := 2) sc__law_live.nd rfl (Or.inr rfl) (pe_callTy call_list_of (by rfl) T.z_list bt_list (pa_cons (pv 1) pa_nil)))
  (pss_cons (ps_for PassesOwn.never rfl (pi_range1 rfl T.z_range (pa_cons (pe_callB Gx.cr_lenQ (by rfl) T.z_len bt_len (pa_cons (pv 0) pa_nil)) pa_nil)) (pg_name (i := 3) sc__law_live.nd rfl (Or.inl rfl))
  (pss_one (ps_for PassesOwn.never rfl (pi_range1 rfl T.z_range (pa_cons (pe_callB Gx.cr_lenQ (by rfl) T.z_len bt_len (pa_cons (pv 0) pa_nil)) pa_nil)) (pg_name (i := 4) sc__law_live.nd rfl (Or.inl rfl))
  (pss_one (ps_if (pt_cmpR (op_neD hr.units) (pe_lc (own := [("target", 5)]) (g := (gName 5))  (by rfl) sc__law_live.nd (pi_tup (pe_ix ix_tup (pv 0) (pv 4) (fun _ _ => rfl))) (blkOk_by (N := ["rows", "finals", "live", "turn", "state", "target"]) (sc := defScope s__law_live) (by decide +kernel)) (fun _ _ _ _ _ => (pg_name (i := 5) sc__law_live.nd rfl (Or.inl rfl))) (fun _ _ _ _ _ => (pts_one (pt_val (pe_ix (r := rIxL K) ix_list (pv 2) (pv 5) (fun _ _ => rfl))))) (fun _ _ _ _ _ => (pv 5))) (pe_lst pa_nil) (nomark _))
  (pss_one (ps_asg pe_bl (pg_sub (pv 2) (pv 4) set_list)))
  pss_nil)))))
  (pss_one (ps_ret (pv 2)))))), ?_⟩
    rw [st__law_live]
    try dsimp only [cxOf]
    walk_at "g"
    refine ⟨f, _, rfl, .inr hf, fun d nd => ?_⟩
    have s1 : Same H (upd H d (.lst (F.map V.bl))) := Gx.Same.put (Same.refl H) nd
    have e1 : (upd H d (.lst (F.map V.bl))) d = some (.lst (F.map V.bl)) := upd_same
    generalize upd H d (.lst (F.map V.bl)) = H1 at s1 e1 ⊢
    walk_at "g"
    refine Gx.lenQ (.inr (s1.seqT hx)) ?_
    rw [hxl]
    walk_at "g"
    have t0 : Turns R F F 0 := ⟨⟨hF, fun s _ e => .fin e, fun s e => e⟩, .inr (Nat.zero_le _)⟩
    refine ⟨_, rfl, by omega, by omega, for_range (lo := 0) (n := ((R.length : Nat) : Int).toNat) (fun i σ H' => ∃ (l : List Bool) (y3 y4 y5 : Option V), Same H H' ∧ H' d = some (.lst (l.map V.bl)) ∧ Turns R F l i ∧ σ = [some (.ref r), some (.ref f), some (.ref d), y3, y4, y5]) ⟨F, _, _, _, s1, e1, t0, rfl⟩ ?_ ?_⟩
    · rintro i σ H2 hi ⟨l0, y3, y4, y5, s2, e2, t2, rfl⟩
      walk_at "g"
      refine Gx.lenQ (.inr (s2.seqT hx)) ?_
      rw [hxl]
      walk_at "g"
      refine ⟨_, rfl, by omega, by omega, for_range (lo := 0) (n := ((R.length : Nat) : Int).toNat) (fun j σ H' => ∃ (l : List Bool) (y4 y5 : Option V), Same H H' ∧ H' d = some (.lst (l.map V.bl)) ∧ Turn R F l0 l j ∧ σ = [some (.ref r), some (.ref f), some (.ref d), some (.int (0 + i)), y4, y5]) ⟨l0, _, _, s2, e2, ⟨t2.1, fun _ _ h => h, fun s h => by omega⟩, rfl⟩ ?_ ?_⟩
      · rintro j σ H3 hj ⟨l, y4, y5, s3, e3, t3, rfl⟩
        have hj' : j < R.length := by omega
        walk_at "g"
        obtain ⟨r2, g2, h2⟩ := rows_get hd (iget (d := []) hj')
        refine Gx.ixT (s3.seqT hx) (Gx.atI_of (k := j) (by omega) g2) ?_
        walk_at "g"
        refine ⟨⟨_, s3.seqT h2⟩, fun E nE => lc_tup (xs := (R.getD j []).map fun n => V.int (n : Nat)) (fun k H' => Same H3 H' ∧ H' E = some (.lst ((((R.getD j []).take k).filter fun t => l.getD t false).map fun n => V.int (n : Nat)))) ⟨Gx.Same.put (Same.refl H3) nE, upd_same⟩ (fun k H' _ z => z.1.seqT (s3.seqT h2)) ?_ ?_⟩
        · rintro k x H4 hk ⟨s4, e4⟩
          rw [List.getElem?_map] at hk
          obtain ⟨n, hn, rfl⟩ := Option.map_eq_some_iff.mp hk
          have hnR : n < R.length := (five.2 j hj').2 n (List.mem_of_getElem? hn)
          have hkl := (List.getElem?_eq_some_iff.mp hn).1
          have hrl := (five.2 j hj').1
          walk_at "g"
          refine ⟨rfl, ?_⟩
          walk_at "g"
          refine Gx.ixL (SqL.of (s4 _ _ e3)) (Gx.atI_of (k := n) rfl (v := .bl (l.getD n false)) (by rw [List.getElem?_map, iget (d := false) (by rw [t3.ok.len]; exact hnR)]; rfl)) ?_
          refine ⟨_, rfl, ?_⟩
          have tk : (R.getD j []).take (k + 1) = (R.getD j []).take k ++ [n] := by rw [List.take_add_one, hn, Option.toList_some]
          have hlen : (((R.getD j []).take k).filter fun t => l.getD t false).length ≤ 5 := Nat.le_trans (List.length_filter_le _ _) (by rw [List.length_take]; omega)
          rw [tk, List.filter_append]
          refine Gx.iteB (fun hb => ?_) (fun hb => ?_)
          · rw [List.filter_cons_of_pos (by exact hb)]
            walk_at "g"
            refine ⟨_, e4, Gx.lineL (by rw [List.length_map]; omega), Gx.Same.put s4 nE, by rw [upd_same, List.map_append]; rfl⟩
          · rw [List.filter_cons_of_neg (by rw [hb]; decide)]
            rw [List.filter_nil, List.append_nil]
            exact ⟨s4, e4⟩
        · rintro H4 ⟨s4, e4⟩
          rw [List.take_of_length_le (by rw [List.length_map]; exact Nat.le_refl _)] at e4
          walk_at "g"
          refine Gx.newL (by show 0 ≤ 16777216; decide) fun p5 H5 E5 => ?_
          refine ⟨intsD _, intsD [], .lst (SqL.of (E5.same _ _ e4)) (dpAll_nats _), .lst (SqL.of E5.at_) .nil, shaped_intsD _, shaped_intsD _, ?_⟩
          rw [eqv_intsD, hit_filter, Bool.not_not]
          have s5 := s3.trans (s4.trans E5.same)
          have t5 := t3.step five hj'
          have e5 := E5.same _ _ (s4 _ _ e3)
          refine ⟨_, rfl, ?_⟩
          refine Gx.iteB (fun hh => ?_) (fun hh => ?_)
          · rw [if_pos hh] at t5
            walk_at "g"
            refine Gx.setL (j := j) e5 (by omega) (by rw [List.length_map, t3.ok.len]; omega) ?_
            exact ⟨l.set j true, _, _, Gx.Same.put s5 nd, by rw [upd_same, List.map_set], t5, rfl⟩
          · rw [if_neg (by rw [hh]; decide)] at t5
            walk_at "g"
            exact ⟨l, _, _, s5, e5, t5, rfl⟩
      · rintro σ H3 ⟨l, y4, y5, s3, e3, t3, rfl⟩
        rw [show ((R.length : Nat) : Int).toNat = R.length by omega] at t3
        exact ⟨l, _, _, _, s3, e3, t2.next five t3, rfl⟩
    · rintro σ H2 ⟨l0, y3, y4, y5, s2, e2, t2, rfl⟩
      rw [show ((R.length : Nat) : Int).toNat = R.length by omega] at t2
      walk_at "g"
      exact q H2 d l0 s2 e2 t2.1 t2.all
end
end K15
namespace K15
open PySem PySem.Spec PyProof.Rows L2
local macro_rules | `(tactic| walk_at "con") => `(tactic| first | with_reducible refine Gx.conE K15.ks0 ?_ | with_reducible refine Gx.conE K15.ks1 ?_ | with_reducible refine Gx.conE K15.ks2 ?_ | with_reducible refine Gx.conE K15.ks3 ?_ | with_reducible refine Gx.conE K15.ks4 ?_ | with_reducible refine Gx.conE K15.ks5 ?_ | with_reducible refine Gx.conE K15.ks6 ?_ | with_reducible refine Gx.conE K15.ks7 ?_ | with_reducible refine Gx.conE K15.ks8 ?_ | with_reducible refine Gx.conE K15.ks9 ?_ | with_reducible refine Gx.conE K15.ks10 ?_ | with_reducible refine Gx.conE K15.ks11 ?_ | with_reducible refine Gx.conE K15.ks12 ?_ | with_reducible refine Gx.conE K15.ks13 ?_ | with_reducible refine Gx.conE K15.ks14 ?_ | with_reducible refine Gx.conE K15.ks15 ?_)
section
variable {P : Program} {w : World} {K : PySem.W.Frag} {mg : Str → Option Value} {base : Heap}
theorem signV_snoc (l : List Nat) (c : Nat) : Gx.signV (l ++ [c]) = Gx.signV l ++ [V.str (Gx.mkS [c])] := by
  unfold Gx.signV
  rw [List.map_append]
  rfl
theorem signV_len (l : List Nat) : (Gx.signV l).length = l.length := by
  unfold Gx.signV
  rw [List.length_map]
theorem signV_strs (l : List Nat) : Gx.signV l = ((l.map fun c => [c]).map Gx.mkS).map V.str := by
  unfold Gx.signV
  rw [List.map_map, List.map_map]
  rfl
theorem flat_one : ∀ l : List Nat, (l.map fun c => [c]).flatten = l
  | [] => rfl
  | c :: l => by rw [List.map_cons, List.flatten_cons, flat_one l]; rfl
/-- a part, or None -/
def PartO (K : PySem.W.Frag) (H : Hp) (v : V) : Option PP → Prop
  | none => v = .non
  | some p => Dp K H v (partD p)
theorem PartO.tups {K : PySem.W.Frag} {H H' : Hp} {v : V} (e : Gx.Tups K H H') : ∀ {o : Option PP}, PartO K H v o → PartO K H' v o
  | none, h => h
  | some p, h => Gx.dp_tups e _ _ (noL_part p) h
theorem PartO.same {K : PySem.W.Frag} {H H' : Hp} {v : V} (e : Same H H') : ∀ {o : Option PP}, PartO K H v o → PartO K H' v o
  | none, h => h
  | some p, h => Gx.dp_same e _ _ h
theorem tupsL {K : PySem.W.Frag} {H : Hp} {p : Addr} {xs : List V} {v : HO} (h : H p = some (.lst xs)) : Gx.Tups K H (upd H p v) := tupsU h (fun _ z => nomatch z) (fun _ _ z => nomatch z)
/-- a list of parts -/
structure ArrV (K : PySem.W.Frag) (H : Hp) (vs : List V) (n : Nat) (f : Nat → Option PP) : Prop where
  len : vs.length = n
  at_ : ∀ i, i < n → ∃ v, vs[i]? = some v ∧ PartO K H v (f i)
theorem ArrV.tups {K : PySem.W.Frag} {H H' : Hp} {vs : List V} {n : Nat} {f : Nat → Option PP} (h : ArrV K H vs n f) (e : Gx.Tups K H H') : ArrV K H' vs n f := ⟨h.len, fun i hi => let ⟨v, a, b⟩ := h.at_ i hi; ⟨v, a, b.tups e⟩⟩
theorem ArrV.same {K : PySem.W.Frag} {H H' : Hp} {vs : List V} {n : Nat} {f : Nat → Option PP} (h : ArrV K H vs n f) (e : Same H H') : ArrV K H' vs n f := ⟨h.len, fun i hi => let ⟨v, a, b⟩ := h.at_ i hi; ⟨v, a, b.same e⟩⟩
theorem ArrV.snoc {K : PySem.W.Frag} {H : Hp} {vs : List V} {n : Nat} {f : Nat → Option PP} {v : V} (h : ArrV K H vs n f) (hv : PartO K H v (f n)) : ArrV K H (vs ++ [v]) (n + 1) f := by
  refine ⟨by rw [List.length_append, h.len]; rfl, fun i hi => ?_⟩
  by_cases e : i = n
  · subst e
    exact ⟨v, by rw [List.getElem?_append_right (by rw [h.len]; exact Nat.le_refl _), h.len, Nat.sub_self]; rfl, hv⟩
  · obtain ⟨w, a, b⟩ := h.at_ i (by omega)
    exact ⟨w, by rw [List.getElem?_append_left (by rw [h.len]; omega)]; exact a, b⟩
theorem ArrV.set {K : PySem.W.Frag} {H : Hp} {vs : List V} {n j : Nat} {f : Nat → Option PP} {v : V} {o : Option PP} (h : ArrV K H vs n f) (hj : j < n) (hv : PartO K H v o) : ArrV K H (vs.set j v) n (fun i => if i = j then o else f i) := by
  refine ⟨by rw [List.length_set]; exact h.len, fun i hi => ?_⟩
  by_cases e : i = j
  · subst e
    exact ⟨v, by rw [List.getElem?_set, if_pos rfl, if_pos (by rw [h.len]; exact hi)], by rw [if_pos rfl]; exact hv⟩
  · obtain ⟨w, a, b⟩ := h.at_ i hi
    exact ⟨w, by rw [List.getElem?_set, if_neg (fun z => e z.symm)]; exact a, by rw [if_neg e]; exact b⟩
theorem ArrV.cong {K : PySem.W.Frag} {H : Hp} {vs : List V} {n : Nat} {f g : Nat → Option PP} (h : ArrV K H vs n f) (e : ∀ i, i < n → f i = g i) : ArrV K H vs n g := ⟨h.len, fun i hi => let ⟨v, a, b⟩ := h.at_ i hi; ⟨v, a, e i hi ▸ b⟩⟩
/-- the target of a place -/
def tgt (n i : Nat) : Int := if i = n then -1 else (i : Int)
theorem liv_iff {R : List (List Nat)} {F : List Bool} (m : MF R F) {dd : Int} (hd : DeadI R F dd) {t : Nat} (ht : t < R.length) : Liv R F t ↔ (t : Int) ≠ dd := by
  constructor
  · intro l z
    rcases hd with ⟨h, _⟩ | ⟨d, _, h2, h3⟩
    · omega
    · have : t = d := by omega
      subst this
      exact dead_not h3 l
  · intro hne
    refine Classical.byContradiction fun z => ?_
    have ds := m.dead ht z
    rcases hd with ⟨_, h⟩ | ⟨d, h1, h2, h3⟩
    · exact h t ht ds
    · have := m.one_dead ht h1 ds h3
      omega
def sp_leq (K : PySem.W.Frag) : Sp := fun vs H Q _ => ∃ (x y : V) (c : Addr) (R : List (List Nat)) (F l : List Bool) (s : Nat) (dd : Int), vs = [x, y, .ref c, .int s] ∧ Dp K H x (rowsD R) ∧ Dp K H y (finsD F) ∧ H c = some (.lst (l.map V.bl)) ∧ MF R F ∧ R.length ≤ 1000 ∧ LvP R F l ∧ LvAll R F l ∧ DeadI R F dd ∧ s < R.length ∧
  ∀ H' d vs', Same H H' → H d = none → H' d = some (.lst vs') → ArrV K H' vs' (R.length + 1) (fun i => eqn0 R F dd s (tgt R.length i)) → Q (.ref d) H'
theorem G__law_equation (T : Txt K mg w) : FnOk P w K mg base CX0 1 T.f__law_equation T.fd__law_equation ["rows", "finals", "live", "state"] (sp_leq K) := by
  refine T.F__law_equation.ok sc__law_equation (fun vs H Q E h => ?_) (fun cdv A outer s H vs Q E hr h => ?_)
  · obtain ⟨x, y, c, R, F, l, s, dd, rfl, _⟩ := h
    rfl
  · obtain ⟨x, y, c, R, F, l, s, dd, rfl, d1, d2, hc, mf, hR, lp, la, hdd, hs, q⟩ := h
    have five := mf.five
    obtain ⟨r, xs, rfl, hx, hd⟩ := rowsD_at d1
    obtain ⟨f, rfl, hf⟩ := finsD_at d2
    have hxl : xs.length = R.length := by rw [Gx.dpAll_len hd, List.length_map]
    have hrl := (five.2 s hs).1
    obtain ⟨r2, g2, h2⟩ := rows_get hd (iget (d := []) hs)
    refine ⟨_, ((pss_cons (ps_set (i := 4) sc__law_equation.nd rfl (Or.inl rfl) (pe_lst pa_nil))
  (pss_cons (ps_for PassesOwn.never rfl (pi_range1 rfl T.z_range (pa_cons (pe_callB Gx.cr_lenQ (by rfl) T.z_len bt_len (pa_cons (pv 0) pa_nil)) pa_nil)) (pg_name (i := 5) sc__law_equation.nd rfl (Or.inr rfl))
  (pss_cons (ps_set (i := 6) sc__law_equation.nd rfl (Or.inl rfl) (Gx.pe_joinG pe_str (pe_lc (own := [("k", 7)]) (g := (gName 7))  (by rfl) sc__law_equation.nd (pi_range1 rfl T.z_range (pa_cons pe_int pa_nil)) (blkOk_by (N := ["rows", "finals", "live", "state", "terms", "target", "signs", "k"]) (sc := defScope s__law_equation) (by decide +kernel)) (fun _ _ _ _ _ => (pg_name (i := 7) sc__law_equation.nd rfl (Or.inl rfl))) (fun _ _ _ _ _ => (pts_one (pt_cmpR op_eq (pe_ix (r := rIxT K) ix_tup (pe_ix (r := rIxT K) ix_tup (pv 0) (pv 3) (fun _ _ => rfl)) (pv 7) (fun _ _ => rfl)) (pv 5) (nomark _)))) (fun _ _ _ _ _ => (pe_ix ix_str pe_str (pv 7) (fun _ _ => rfl))))))
  (pss_one (ps_if (PW.pt (pw_and (pt_cmpR op_ne (pv 6) pe_str (nomark _)) (pw_and1 (pt_val (pe_ix ix_list (pv 2) (pv 5) (fun _ _ => rfl))))))
  (pss_one (ps_expr (pe_bm PySem.F.plainAttrs_list PySem.F.slot_list_append PySem.F.type_list_append mt_append (pv 4) (pa_cons (pe_tup (pa_cons (pe_tup (pa_cons pe_str (pa_cons (pv 6) pa_nil))) (pa_cons pe_int pa_nil))) pa_nil))))
  (pss_one (ps_expr (pe_bm PySem.F.plainAttrs_list PySem.F.slot_list_append PySem.F.type_list_append mt_append (pv 4) (pa_cons pe_non pa_nil))))))))
  (pss_cons (ps_if (pt_val (pe_ix ix_tup (pv 1) (pv 3) (fun _ _ => rfl)))
  (pss_one (ps_ret (pe_op op_cat (pv 4) (pe_lst (pa_cons (pe_tup (pa_cons (pe_tup (pa_cons pe_str (pa_cons pe_str pa_nil))) (pa_cons pe_int pa_nil))) pa_nil)))))
  pss_nil)
  (pss_one (ps_ret (pe_op op_cat (pv 4) (pe_lst (pa_cons pe_non pa_nil))))))))), ?_⟩
    rw [st__law_equation]
    try dsimp only [cxOf]
    walk_at "g"
    refine Gx.newL (by show 0 ≤ 16777216; decide) fun D H1 E1 => ?_
    have nD := E1.fresh
    walk_at "g"
    refine Gx.lenQ (.inr (E1.same.seqT hx)) ?_
    rw [hxl]
    walk_at "g"
    refine ⟨_, rfl, by omega, by omega, for_range (lo := 0) (n := ((R.length : Nat) : Int).toNat) (fun i σ H' => ∃ (vs' : List V) (y5 y6 y7 : Option V), Same H H' ∧ H' D = some (.lst vs') ∧ ArrV K H' vs' i (fun i => eqn0 R F dd s (tgt R.length i)) ∧ σ = [some (.ref r), some (.ref f), some (.ref c), some (.int s), some (.ref D), y5, y6, y7]) ⟨[], _, _, _, E1.same, E1.at_, ⟨rfl, fun i hi => by omega⟩, rfl⟩ ?_ ?_⟩
    · rintro i σ H2 hi ⟨vs', y5, y6, y7, s2, e2, a2, rfl⟩
      have hi' : i < R.length := by omega
      walk_at "g"
      refine ⟨_, rfl, by omega, by omega, fun E nE => lc_range (lo := 0) (n := (5 : Int).toNat) (fun k H' => Same H2 H' ∧ H' E = some (.lst (Gx.signV (sgnI R s k (i : Int))))) ⟨Gx.Same.put (Same.refl H2) nE, upd_same⟩ ?_ ?_⟩
      · rintro k H3 hk ⟨s3, e3⟩
        have hk5 : k < 5 := hk
        walk_at "g"
        refine ⟨rfl, ?_⟩
        walk_at "g"
        refine Gx.ixT ((s2.trans s3).seqT hx) (Gx.atI_of (k := s) rfl g2) ?_
        walk_at "g"
        refine Gx.ixT ((s2.trans s3).seqT h2) (Gx.atI_of (k := k) (by omega) (v := .int (mv R s k : Nat)) (by rw [List.getElem?_map, iget (d := 0) (by omega)]; rfl)) ?_
        walk_at "g"
        have hl5 := sgnI_len R s k (i : Int)
        refine Gx.iteD (fun hh => ?_) (fun hh => ?_)
        · walk_at "g"
          refine ⟨_, e3, Gx.lineL (by rw [signV_len]; omega), Gx.Same.put s3 nE, ?_⟩
          rw [upd_same, sgnI_succ, if_pos (by omega), signV_snoc]
          have ek : (0 + (k : Int)).toNat = k := by omega
          rw [ek]
          rfl
        · refine ⟨s3, ?_⟩
          rw [sgnI_succ, if_neg (fun z => hh (by omega)), List.append_nil]
          exact e3
      · rintro H3 ⟨s3, e3⟩
        have e3 : H3 E = some (.lst (Gx.signV (sgnI R s 5 (i : Int)))) := e3
        walk_at "g"
        have hl5 := sgnI_len R s 5 (i : Int)
        refine Gx.join0 (ls := (sgnI R s 5 (i : Int)).map fun c => [c]) (SqL.of (by rw [e3, signV_strs])) (by rw [flat_one]; omega) ?_
        rw [flat_one]
        walk_at "g"
        have eD3 := s3 _ _ e2
        have a3 := a2.same s3
        have s03 := s2.trans s3
        have hvl := a2.len
        have htg : tgt R.length i = (i : Int) := if_neg (by omega)
        have hev : eqn0 R F dd s (i : Int) = if (i : Int) ≠ dd ∧ sgnI R s 5 (i : Int) ≠ [] then some (.one (sgnI R s 5 (i : Int))) else none := if_neg (by omega)
        have non3 : ¬ ((i : Int) ≠ dd ∧ sgnI R s 5 (i : Int) ≠ []) → ∃ (vs'' : List V) (y5' y6' y7' : Option V), Same H (upd H3 D (.lst (vs' ++ [.non]))) ∧ (upd H3 D (.lst (vs' ++ [.non]))) D = some (.lst vs'') ∧ ArrV K (upd H3 D (.lst (vs' ++ [.non]))) vs'' (i + 1) (fun i => eqn0 R F dd s (tgt R.length i)) ∧
            [some (V.ref r), some (.ref f), some (.ref c), some (.int s), some (.ref D), some (.int (0 + i)), some (.str (Gx.mkS (sgnI R s 5 (i : Int)))), y7] = [some (V.ref r), some (.ref f), some (.ref c), some (.int s), some (.ref D), y5', y6', y7'] := fun hc => by
          refine ⟨_, _, _, _, Gx.Same.put s03 nD, upd_same, (a3.tups (tupsL eD3)).snoc ?_, rfl⟩
          rw [htg, hev, if_neg hc]
          rfl
        refine Gx.iteDn (fun hne => ?_) (fun he => ?_)
        · walk_at "g"
          refine Gx.ixL (SqL.of (s03 _ _ hc)) (Gx.atI_of (k := i) (by omega) (v := .bl (l.getD i false)) (by rw [List.getElem?_map, iget (d := false) (by rw [lp.len]; exact hi')]; rfl)) ?_
          refine ⟨_, rfl, ?_⟩
          refine Gx.iteB (fun hl => ?_) (fun hl => ?_)
          · have hi2 := (liv_iff mf hdd hi').mp (lp.snd i hi' hl)
            walk_at "g"
            refine Gx.newT (by simp) (fun a1 H4 E4 => ?_)
            walk_at "g"
            refine Gx.newT (by simp) (fun a2 H5 E5 => ?_)
            have eD5 := E5.same _ _ (E4.same _ _ eD3)
            have s5 := E4.same.trans E5.same
            walk_at "g"
            refine ⟨_, _, _, _, Gx.Same.put (s03.trans s5) nD, upd_same, ((a3.same s5).tups (tupsL eD5)).snoc ?_, rfl⟩
            rw [htg, hev, if_pos ⟨hi2, hne⟩]
            exact Gx.dp_tups (tupsL eD5) _ _ (noL_part _) (.tup (SqT.of E5.at_) (.cons (.tup (SqT.of (E5.same _ _ E4.at_)) (.cons (.str _) (.cons (.str _) .nil))) (.cons (.int _) .nil)))
          · walk_at "g"
            exact non3 fun z => by
              have := la i hi' ((liv_iff mf hdd hi').mpr z.1)
              rw [this] at hl
              cases hl
        · walk_at "g"
          exact non3 fun z => z.2 he
    · rintro σ H2 ⟨vs', y5, y6, y7, s2, e2, a2, rfl⟩
      rw [show ((R.length : Nat) : Int).toNat = R.length by omega] at a2
      have hvl := a2.len
      walk_at "g"
      refine Gx.ixT (s2.seqT hf) (Gx.atI_of (k := s) rfl (v := .bl (F.getD s false)) (by rw [List.getElem?_map, iget (d := false) (by rw [mf.fl]; exact hs)]; rfl)) ?_
      have htg : tgt R.length R.length = -1 := if_pos rfl
      have hev : eqn0 R F dd s (-1) = if F.getD s false = true then some .e else none := if_pos rfl
      refine ⟨_, rfl, ?_⟩
      refine Gx.iteB (fun hF => ?_) (fun hF => ?_)
      · walk_at "g"
        refine Gx.newT (by simp) (fun a1 H3 E3 => ?_)
        walk_at "g"
        refine Gx.newT (by simp) (fun a2' H4 E4 => ?_)
        walk_at "g"
        refine Gx.newL (by show 1 ≤ 16777216; decide) fun a3 H5 E5 => ?_
        have s5 := E3.same.trans (E4.same.trans E5.same)
        refine Gx.cat1 (s5 _ _ e2) E5.at_ (by rw [hvl]; show R.length + 1 ≤ 16777216; omega) fun ph H6 E6 => ?_
        walk_at "g"
        refine q H6 ph _ (s2.trans (s5.trans E6.same)) (fresh_of (s2.trans s5) E6.fresh) E6.at_ ((a2.same (s5.trans E6.same)).snoc ?_)
        rw [htg, hev, if_pos hF]
        exact .tup (SqT.of (E6.same _ _ (E5.same _ _ E4.at_))) (.cons (.tup (SqT.of (E6.same _ _ (E5.same _ _ (E4.same _ _ E3.at_)))) (.cons (.str _) (.cons (.str _) .nil))) (.cons (.int _) .nil))
      · walk_at "g"
        refine Gx.newL (by show 1 ≤ 16777216; decide) fun a3 H5 E5 => ?_
        refine Gx.cat1 (E5.same _ _ e2) E5.at_ (by rw [hvl]; show R.length + 1 ≤ 16777216; omega) fun ph H6 E6 => ?_
        walk_at "g"
        refine q H6 ph _ (s2.trans (E5.same.trans E6.same)) (fresh_of (s2.trans E5.same) E6.fresh) E6.at_ ((a2.same (E5.same.trans E6.same)).snoc ?_)
        rw [htg, hev, if_neg (by rw [hF]; decide)]
        rfl
end
end K15
namespace K15
open PySem PySem.Spec PyProof.Rows L2
local macro_rules | `(tactic| walk_at "con") => `(tactic| first | with_reducible refine Gx.conE K15.ks0 ?_ | with_reducible refine Gx.conE K15.ks1 ?_ | with_reducible refine Gx.conE K15.ks2 ?_ | with_reducible refine Gx.conE K15.ks3 ?_ | with_reducible refine Gx.conE K15.ks4 ?_ | with_reducible refine Gx.conE K15.ks5 ?_ | with_reducible refine Gx.conE K15.ks6 ?_ | with_reducible refine Gx.conE K15.ks7 ?_ | with_reducible refine Gx.conE K15.ks8 ?_ | with_reducible refine Gx.conE K15.ks9 ?_ | with_reducible refine Gx.conE K15.ks10 ?_ | with_reducible refine Gx.conE K15.ks11 ?_ | with_reducible refine Gx.conE K15.ks12 ?_ | with_reducible refine Gx.conE K15.ks13 ?_ | with_reducible refine Gx.conE K15.ks14 ?_ | with_reducible refine Gx.conE K15.ks15 ?_)
section
variable {P : Program} {w : World} {K : PySem.W.Frag} {mg : Str → Option Value} {base : Heap}
theorem pp_shaped {p : PP} (h : p.sg) (d : p.depth ≤ 50) : SeqAt.shaped (ppD p) = true := by
  unfold SeqAt.shaped
  have h1 := PP.canD p h
  have h2 := PP.depD p
  rw [h1, Bool.true_and]
  refine decide_eq_true ?_
  omega
theorem pp_e (p : PP) : PyData.eqv (ppD p) (ppD .e) = decide (p = .e) := by
  cases p with
  | e => decide +kernel
  | one l =>
    rw [decide_eq_false (by simp)]
    have : (Gx.mkS [111, 110, 101] == Gx.mkS [119, 111, 114, 100]) = false := by decide +kernel
    simp [ppD, PyData.eqv, PyData.eqvAll, this]
  | star p =>
    rw [decide_eq_false (by simp)]
    have : (Gx.mkS [115, 116, 97, 114] == Gx.mkS [119, 111, 114, 100]) = false := by decide +kernel
    simp [ppD, PyData.eqv, PyData.eqvAll, this]
  | seq p q =>
    rw [decide_eq_false (by simp)]
    have : (Gx.mkS [115, 101, 113] == Gx.mkS [119, 111, 114, 100]) = false := by decide +kernel
    simp [ppD, PyData.eqv, PyData.eqvAll, this]
  | alt p q =>
    rw [decide_eq_false (by simp)]
    have : (Gx.mkS [97, 108, 116] == Gx.mkS [119, 111, 114, 100]) = false := by decide +kernel
    simp [ppD, PyData.eqv, PyData.eqvAll, this]
def sp_bef (K : PySem.W.Frag) : Sp := fun vs H Q _ => ∃ (x y : V) (a b : PP), vs = [x, y] ∧ Dp K H x (partD a) ∧ Dp K H y (partD b) ∧ b.sg ∧ b.depth ≤ 50 ∧ ∀ H' v, Same H H' → Dp K H' v (partD (inF a b)) → Q v H'
theorem G__law_before (T : Txt K mg w) : FnOk P w K mg base CX0 1 T.f__law_before T.fd__law_before ["one", "two"] (sp_bef K) := by
  refine T.F__law_before.ok sc__law_before (fun vs H Q E h => ?_) (fun cdv A outer s H vs Q E hr h => ?_)
  · obtain ⟨x, y, a, b, rfl, _⟩ := h
    rfl
  · obtain ⟨x, y, a, b, rfl, hx, hy, hsg, hdp, q⟩ := h
    refine ⟨_, ((pss_cons (ps_if (pt_cmpR (op_eqD hr.units) (pe_ix ix_tup (pv 1) pe_int (fun _ _ => rfl)) (pe_tup (pa_cons pe_str (pa_cons pe_str pa_nil))) (nomark _))
  (pss_one (ps_ret (pv 0)))
  pss_nil)
  (pss_one (ps_ret (pe_tup (pa_cons (pe_tup (pa_cons pe_str (pa_cons (pe_ix ix_tup (pv 0) pe_int (fun _ _ => rfl)) (pa_cons (pe_ix ix_tup (pv 1) pe_int (fun _ _ => rfl)) pa_nil)))) (pa_cons (pe_op op_add (pe_op op_add pe_int (pe_ix ix_tup (pv 0) pe_int (fun _ _ => rfl))) (pe_ix ix_tup (pv 1) pe_int (fun _ _ => rfl))) pa_nil))))))), ?_⟩
    rw [st__law_before]
    try dsimp only [cxOf]
    obtain ⟨ax, vx, rfl, hxs, hxd⟩ := partD_at hx
    obtain ⟨ay, vy, rfl, hys, hyd⟩ := partD_at hy
    walk_at "g"
    refine Gx.newT (by simp) (fun a1 H1 E1 => ?_)
    have hx1 := E1.same.seqT hxs
    have hy1 := E1.same.seqT hys
    refine ⟨ppD b, ppD .e, Gx.dp_same E1.same _ _ hyd, .tup (SqT.of E1.at_) (.cons (.str _) (.cons (.str _) .nil)), pp_shaped hsg hdp, pp_shaped (p := .e) trivial (by decide), ?_⟩
    rw [pp_e]
    refine ⟨_, rfl, ?_⟩
    refine Gx.iteD (fun he => ?_) (fun hne => ?_)
    · walk_at "g"
      refine q H1 _ E1.same ?_
      rw [show inF a b = a from if_pos he]
      exact Gx.dp_same E1.same _ _ hx
    · walk_at "g"
      refine Gx.newT (by simp) (fun a2 H2 E2 => ?_)
      have s2 := E1.same.trans E2.same
      have hx2 := s2.seqT hxs
      have hy2 := s2.seqT hys
      walk_at "g"
      refine Gx.newT (by show 2 ≤ 16777216; decide) (fun a3 H3 E3 => ?_)
      refine q H3 _ (s2.trans E3.same) ?_
      rw [show inF a b = .seq a b from if_neg hne]
      have hsz : ((1 : Int) + ((a.size : Nat) : Int) + ((b.size : Nat) : Int)) = (((PP.seq a b).size : Nat) : Int) := by simp only [PP.size]; omega
      rw [hsz] at E3
      exact .tup (SqT.of E3.at_) (.cons (.tup (SqT.of (E3.same _ _ E2.at_)) (.cons (.str _) (.cons (Gx.dp_same (s2.trans E3.same) _ _ hxd) (.cons (Gx.dp_same (s2.trans E3.same) _ _ hyd) .nil)))) (.cons (.int _) .nil))
def sp_ladd (K : PySem.W.Frag) : Sp := fun vs H Q _ => ∃ (x y : V) (o : Option PP) (b : PP), vs = [x, y] ∧ PartO K H x o ∧ Dp K H y (partD b) ∧ ∀ H' v, Same H H' → Dp K H' v (partD (addO o b)) → Q v H'
theorem G__law_added (T : Txt K mg w) : FnOk P w K mg base CX0 1 T.f__law_added T.fd__law_added ["one", "two"] (sp_ladd K) := by
  refine T.F__law_added.ok sc__law_added (fun vs H Q E h => ?_) (fun cdv A outer s H vs Q E hr h => ?_)
  · obtain ⟨x, y, o, b, rfl, _⟩ := h
    rfl
  · obtain ⟨x, y, o, b, rfl, hx, hy, q⟩ := h
    refine ⟨_, ((pss_cons (ps_if (pt_cmpR Gx.op_isNG (pv 0) pe_non (nomark _))
  (pss_one (ps_ret (pv 1)))
  pss_nil)
  (pss_one (ps_ret (pe_tup (pa_cons (pe_tup (pa_cons pe_str (pa_cons (pe_ix ix_tup (pv 0) pe_int (fun _ _ => rfl)) (pa_cons (pe_ix ix_tup (pv 1) pe_int (fun _ _ => rfl)) pa_nil)))) (pa_cons (pe_op op_add (pe_op op_add pe_int (pe_ix ix_tup (pv 0) pe_int (fun _ _ => rfl))) (pe_ix ix_tup (pv 1) pe_int (fun _ _ => rfl))) pa_nil))))))), ?_⟩
    rw [st__law_added]
    try dsimp only [cxOf]
    obtain ⟨ay, vy, rfl, hys, hyd⟩ := partD_at hy
    cases o with
    | none =>
      have hx : x = .non := hx
      subst hx
      walk_at "g"
      exact q H _ (Same.refl H) hy
    | some a =>
      obtain ⟨ax, vx, rfl, hxs, hxd⟩ := partD_at (show Dp K H x (partD a) from hx)
      walk_at "g"
      refine Gx.newT (by simp) (fun a2 H2 E2 => ?_)
      have s2 := E2.same
      have hx2 := s2.seqT hxs
      have hy2 := s2.seqT hys
      walk_at "g"
      refine Gx.newT (by show 2 ≤ 16777216; decide) (fun a3 H3 E3 => ?_)
      refine q H3 _ (s2.trans E3.same) ?_
      show Dp K H3 _ (partD (.alt a b))
      have hsz : ((1 : Int) + ((a.size : Nat) : Int) + ((b.size : Nat) : Int)) = (((PP.alt a b).size : Nat) : Int) := by simp only [PP.size]; omega
      rw [hsz] at E3
      exact .tup (SqT.of E3.at_) (.cons (.tup (SqT.of (E3.same _ _ E2.at_)) (.cons (.str _) (.cons (Gx.dp_same (s2.trans E3.same) _ _ hxd) (.cons (Gx.dp_same (s2.trans E3.same) _ _ hyd) .nil)))) (.cons (.int _) .nil))
end
end K15
namespace K15
open PySem PySem.Spec PyProof.Rows L2
local macro_rules | `(tactic| walk_at "con") => `(tactic| first | with_reducible refine Gx.conE K15.ks0 ?_ | with_reducible refine Gx.conE K15.ks1 ?_ | with_reducible refine Gx.conE K15.ks2 ?_ | with_reducible refine Gx.conE K15.ks3 ?_ | with_reducible refine Gx.conE K15.ks4 ?_ | with_reducible refine Gx.conE K15.ks5 ?_ | with_reducible refine Gx.conE K15.ks6 ?_ | with_reducible refine Gx.conE K15.ks7 ?_ | with_reducible refine Gx.conE K15.ks8 ?_ | with_reducible refine Gx.conE K15.ks9 ?_ | with_reducible refine Gx.conE K15.ks10 ?_ | with_reducible refine Gx.conE K15.ks11 ?_ | with_reducible refine Gx.conE K15.ks12 ?_ | with_reducible refine Gx.conE K15.ks13 ?_ | with_reducible refine Gx.conE K15.ks14 ?_ | with_reducible refine Gx.conE K15.ks15 ?_)
section
variable {P : Program} {w : World} {K : PySem.W.Frag} {mg : Str → Option Value} {base : Heap}
structure ArF (H0 : Hp) (D : Addr) (n : Nat) (b : Nat → Addr) : Prop where
  inj : ∀ s t, s < n → t < n → b s = b t → s = t
  neD : ∀ s, s < n → b s ≠ D
  fr : ∀ s, s < n → H0 (b s) = none
structure ArI (K : PySem.W.Frag) (H0 H : Hp) (D : Addr) (n : Nat) (b : Nat → Addr) (dom : Nat → Prop) (Kp : Nat → Nat → Option PP) : Prop where
  sm : Same H0 H
  dD : H D = some (.lst ((List.range n).map fun s => V.ref (b s)))
  eq : ∀ s, dom s → ∃ vs, H (b s) = some (.lst vs) ∧ ArrV K H vs (n + 1) (Kp s)
section
variable {K : PySem.W.Frag} {H0 H H' : Hp} {D : Addr} {n : Nat} {b : Nat → Addr} {dom dom2 : Nat → Prop} {Kp Kq : Nat → Nat → Option PP}
theorem ArI.same (h : ArI K H0 H D n b dom Kp) (s : Same H H') : ArI K H0 H' D n b dom Kp := ⟨h.sm.trans s, s _ _ h.dD, fun x hx => let ⟨vs, e, q⟩ := h.eq x hx; ⟨vs, s _ _ e, q.same s⟩⟩
theorem ArI.sub (h : ArI K H0 H D n b dom Kp) (hs : ∀ s, dom2 s → dom s) (he : ∀ s, dom2 s → ∀ p, p < n + 1 → Kp s p = Kq s p) : ArI K H0 H D n b dom2 Kq := ⟨h.sm, h.dD, fun x hx => let ⟨vs, e, q⟩ := h.eq x (hs x hx); ⟨vs, e, q.cong (he x hx)⟩⟩
theorem ArI.set (h : ArI K H0 H D n b dom Kp) (f : ArF H0 D n b) (hn : ∀ s, dom s → s < n) {e j : Nat} (he : dom e) {vs : List V} {v : V} {o : Option PP} (e1 : H (b e) = some (.lst vs)) (q1 : ArrV K H vs (n + 1) (Kp e)) (hj : j < n + 1) (hv : PartO K H v o) :
    ArI K H0 (upd H (b e) (.lst (vs.set j v))) D n b dom (fun s p => if s = e then (if p = j then o else Kp e p) else Kp s p) := by
  refine ⟨Gx.Same.put h.sm (f.fr e (hn e he)), by rw [upd_ne (fun z => f.neD e (hn e he) z.symm)]; exact h.dD, fun s hs => ?_⟩
  by_cases z : s = e
  · subst z
    refine ⟨_, upd_same, ((q1.set hj hv).tups (tupsL e1)).cong fun i _ => ?_⟩
    rw [if_pos rfl]
  · obtain ⟨ws, e2, q2⟩ := h.eq s hs
    refine ⟨ws, by rw [upd_ne (fun w => z (f.inj s e (hn s hs) (hn e he) w))]; exact e2, (q2.tups (tupsL e1)).cong fun i _ => ?_⟩
    rw [if_neg z]
theorem ArI.ref (h : ArI K H0 H D n b dom Kp) {s : Nat} (hs : s < n) : ((List.range n).map fun s => V.ref (b s))[s]? = some (.ref (b s)) := by
  rw [List.getElem?_map, List.getElem?_range hs]
  rfl
end
/-- the arrays, the first i made -/
structure CaI (K : PySem.W.Frag) (H1 H : Hp) (D : Addr) (n i : Nat) (b : Nat → Addr) (Kp : Nat → Nat → Option PP) : Prop where
  sm : Same H1 H
  dD : H D = some (.lst ((List.range i).map fun s => V.ref (b s)))
  get : ∀ s, s < i → b s ≠ D ∧ H1 (b s) = none ∧ ∃ vs, H (b s) = some (.lst vs) ∧ ArrV K H vs (n + 1) (Kp s)
  inj : ∀ s t, s < i → t < i → b s = b t → s = t
theorem CaI.step {K : PySem.W.Frag} {H1 H H5 : Hp} {D d : Addr} {n i : Nat} {b : Nat → Addr} {Kp : Nat → Nat → Option PP} {vs : List V} (h : CaI K H1 H D n i b Kp) (nD : H1 D = none) (s5 : Same H H5) (n5 : H d = none) (e5 : H5 d = some (.lst vs)) (q5 : ArrV K H5 vs (n + 1) (Kp i)) :
    CaI K H1 (upd H5 D (.lst (((List.range i).map fun s => V.ref (b s)) ++ [.ref d]))) D n (i + 1) (fun x => if x = i then d else b x) Kp := by
  have hdD : d ≠ D := fun z => by rw [z, h.dD] at n5; cases n5
  have hD5 := s5 _ _ h.dD
  have ad : ∀ s, s < i → b s ≠ d := fun s hs z => by
    obtain ⟨_, _, vs', e', _⟩ := h.get s hs
    rw [z, n5] at e'
    cases e'
  refine ⟨Gx.Same.put (h.sm.trans s5) nD, ?_, fun s hs => ?_, fun s t hs ht e => ?_⟩
  · rw [upd_same, List.range_succ, List.map_append]
    congr 3
    · refine List.map_congr_left fun x hx => ?_
      rw [if_neg (by have := List.mem_range.mp hx; omega)]
    · simp
  · by_cases z : s = i
    · subst z
      rw [if_pos rfl]
      exact ⟨hdD, fresh_of h.sm n5, vs, by rw [upd_ne hdD]; exact e5, q5.tups (tupsL hD5)⟩
    · obtain ⟨g1, g2, vs', g3, g4⟩ := h.get s (by omega)
      rw [if_neg z]
      exact ⟨g1, g2, vs', by rw [upd_ne g1]; exact s5 _ _ g3, (g4.same s5).tups (tupsL hD5)⟩
  · by_cases z : s = i
    · by_cases w : t = i
      · omega
      · rw [if_pos z, if_neg w] at e
        exact absurd e.symm (ad t (by omega))
    · by_cases w : t = i
      · rw [if_neg z, if_pos w] at e
        exact absurd e (ad s (by omega))
      · rw [if_neg z, if_neg w] at e
        exact h.inj s t (by omega) (by omega) e
theorem lt_step {α : Type} {p j : Nat} (a c : α) (h : p ≠ j) : (if p < j then a else c) = if p < j + 1 then a else c := by
  by_cases w2 : p < j
  · rw [if_pos w2, if_pos (by omega)]
  · rw [if_neg w2, if_neg (by omega)]
theorem tgt_lt {n i : Nat} (h : i < n) : tgt n i = (i : Int) := if_neg (by omega)
theorem tgt_eq {n i k : Nat} (hk : k < n) : tgt n i = (k : Int) ↔ i = k := by
  unfold tgt
  split
  · constructor
    · intro z; omega
    · intro z; omega
  · constructor
    · intro z; omega
    · intro z; omega
def sp_lsol (K : PySem.W.Frag) : Sp := fun vs H Q _ => ∃ (x y : V) (R : List (List Nat)) (F : List Bool) (dd : Int), vs = [x, y] ∧ Dp K H x (rowsD R) ∧ Dp K H y (finsD F) ∧ MF R F ∧ R.length ≤ 6 ∧ DeadI R F dd ∧
  ∀ H' v, Same H H' → PartO K H' v (solve1 (knownAt (eqn0 R F dd) R.length (R.length - 1) 0) 0 (-1)) → Q v H'
set_option maxHeartbeats 8000000 in
theorem G__law_solved (T : Txt K mg w) : FnOk P w K mg base CX0 2 T.f__law_solved T.fd__law_solved ["rows", "finals"] (sp_lsol K) := by
  have G__law_live := G__law_live (P := P) (w := w) (base := base) T
  have G__law_equation := G__law_equation (P := P) (w := w) (base := base) T
  have G__law_before := G__law_before (P := P) (w := w) (base := base) T
  have G__law_added := G__law_added (P := P) (w := w) (base := base) T
  refine T.F__law_solved.ok sc__law_solved (fun vs H Q E h => ?_) (fun cdv A outer s H vs Q E hr h => ?_)
  · obtain ⟨x, y, R, F, dd, rfl, _⟩ := h
    rfl
  · obtain ⟨x, y, R, F, dd, rfl, d1, d2, mf, hn6, hdd, q⟩ := h
    refine ⟨_, ((pss_cons (ps_set (i := 2) sc__law_solved.nd rfl (Or.inl rfl) (pe_callB Gx.cr_lenQ (by rfl) T.z_len bt_len (pa_cons (pv 0) pa_nil)))
  (pss_cons (ps_set (i := 3) sc__law_solved.nd rfl (Or.inr rfl) (pe_call G__law_live (hr.mono (by first | decide | omega)) (by rfl) T.g__law_live T.F__law_live.kp T.b__law_live .nil pass0 (pa_cons (pv 0) (pa_cons (pv 1) pa_nil))))
  (pss_cons (ps_setLc (i := 4) (own := [("state", 5)]) (g := (gName 5)) (tt := tYes) rfl sc__law_solved.nd rfl rfl (sw_true rfl rfl rfl (by decide +kernel)) (pi_range1 rfl T.z_range (pa_cons (pv 2) pa_nil)) (blkOk_by (N := ["rows", "finals", "many", "live", "known", "state", "turn", "loop", "at", "smaller", "first", "more"]) (sc := defScope s__law_solved) (by decide +kernel)) (fun _ _ _ _ _ => (pg_name (i := 5) sc__law_solved.nd rfl (Or.inl rfl))) (fun _ _ _ _ _ => pts_nil) (fun _ _ _ _ _ => (pe_call G__law_equation (hr.mono (by first | decide | omega)) (by rfl) T.g__law_equation T.F__law_equation.kp T.b__law_equation .nil pass0 (pa_cons (pv 0) (pa_cons (pv 1) (pa_cons (pv 3) (pa_cons (pv 5) pa_nil)))))))
  (pss_cons (ps_for PassesOwn.never rfl (pi_range1 rfl T.z_range (pa_cons (pv 2) pa_nil)) (pg_name (i := 6) sc__law_solved.nd rfl (Or.inl rfl))
  (pss_cons (ps_set (i := 5) sc__law_solved.nd rfl (Or.inl rfl) (pe_op op_sub (pe_op op_sub (pv 2) pe_int) (pv 6)))
  (pss_cons (ps_set (i := 7) sc__law_solved.nd rfl (Or.inl rfl) (pe_ix ix_list (pe_ix ix_list (pv 4) (pv 5) (fun _ _ => rfl)) (pv 5) (fun _ _ => rfl)))
  (C8.pss_cut (ps_if (pt_cmpR Gx.op_notNG (pv 7) pe_non (nomark _))
  (pss_cons (ps_set (i := 7) sc__law_solved.nd rfl (Or.inl rfl) (pe_tup (pa_cons (pe_tup (pa_cons pe_str (pa_cons (pe_ix ix_tup (pv 7) pe_int (fun _ _ => rfl)) pa_nil))) (pa_cons (pe_op op_add (pe_ix ix_tup (pv 7) pe_int (fun _ _ => rfl)) pe_int) pa_nil))))
  (pss_cons (ps_asg pe_non (pg_sub (pe_ix ix_list (pv 4) (pv 5) (fun _ _ => rfl)) (pv 5) set_list))
  (pss_one (ps_for PassesOwn.never rfl (pi_range1 rfl T.z_range (pa_cons (pe_op op_add (pv 2) pe_int) pa_nil)) (pg_name (i := 8) sc__law_solved.nd rfl (Or.inl rfl))
  (pss_one (ps_if (pt_cmpR Gx.op_notNG (pe_ix ix_list (pe_ix ix_list (pv 4) (pv 5) (fun _ _ => rfl)) (pv 8) (fun _ _ => rfl)) pe_non (nomark _))
  (pss_one (ps_asg (pe_call G__law_before (hr.mono (by first | decide | omega)) (by rfl) T.g__law_before T.F__law_before.kp T.b__law_before .nil pass0 (pa_cons (pv 7) (pa_cons (pe_ix ix_list (pe_ix ix_list (pv 4) (pv 5) (fun _ _ => rfl)) (pv 8) (fun _ _ => rfl)) pa_nil))) (pg_sub (pe_ix ix_list (pv 4) (pv 5) (fun _ _ => rfl)) (pv 8) set_list)))
  pss_nil))))))
  pss_nil)
  (pss_one (ps_for PassesOwn.never rfl (pi_range1 rfl T.z_range (pa_cons (pv 5) pa_nil)) (pg_name (i := 9) sc__law_solved.nd rfl (Or.inl rfl))
  (pss_cons (ps_set (i := 10) sc__law_solved.nd rfl (Or.inl rfl) (pe_ix ix_list (pe_ix ix_list (pv 4) (pv 9) (fun _ _ => rfl)) (pv 5) (fun _ _ => rfl)))
  (pss_one (ps_if (pt_cmpR Gx.op_notNG (pv 10) pe_non (nomark _))
  (pss_cons (ps_asg pe_non (pg_sub (pe_ix ix_list (pv 4) (pv 9) (fun _ _ => rfl)) (pv 5) set_list))
  (pss_one (ps_for PassesOwn.never rfl (pi_range1 rfl T.z_range (pa_cons (pe_op op_add (pv 2) pe_int) pa_nil)) (pg_name (i := 8) sc__law_solved.nd rfl (Or.inl rfl))
  (pss_one (ps_if (pt_cmpR Gx.op_notNG (pe_ix ix_list (pe_ix ix_list (pv 4) (pv 5) (fun _ _ => rfl)) (pv 8) (fun _ _ => rfl)) pe_non (nomark _))
  (pss_cons (ps_set (i := 11) sc__law_solved.nd rfl (Or.inl rfl) (pe_call G__law_before (hr.mono (by first | decide | omega)) (by rfl) T.g__law_before T.F__law_before.kp T.b__law_before .nil pass0 (pa_cons (pv 10) (pa_cons (pe_ix ix_list (pe_ix ix_list (pv 4) (pv 5) (fun _ _ => rfl)) (pv 8) (fun _ _ => rfl)) pa_nil))))
  (pss_one (ps_asg (pe_call G__law_added (hr.mono (by first | decide | omega)) (by rfl) T.g__law_added T.F__law_added.kp T.b__law_added .nil pass0 (pa_cons (pe_ix ix_list (pe_ix ix_list (pv 4) (pv 9) (fun _ _ => rfl)) (pv 8) (fun _ _ => rfl)) (pa_cons (pv 11) pa_nil))) (pg_sub (pe_ix ix_list (pv 4) (pv 9) (fun _ _ => rfl)) (pv 8) set_list))))
  pss_nil)))))
  pss_nil)))))))))
  (pss_one (ps_ret (pe_ix ix_list (pe_ix ix_list (pv 4) pe_int (fun _ _ => rfl)) (pv 2) (fun _ _ => rfl))))))))), ?_⟩
    clear G__law_live G__law_equation G__law_before G__law_added
    have five := mf.five
    obtain ⟨r, xs, rfl, hx, hd⟩ := rowsD_at d1
    have hxl : xs.length = R.length := by rw [Gx.dpAll_len hd, List.length_map]
    rw [st__law_solved]
    try dsimp only [cxOf]
    walk_at "g"
    rw [hxl]
    refine ⟨.ref r, y, R, F, rfl, d1, d2, five, mf.fl, by omega, fun H1 c l s1 e1 lp la => ?_⟩
    walk_at "g"
    obtain ⟨Ks, hKs⟩ : ∃ Ks, Ks = eqn0 R F dd := ⟨_, rfl⟩
    obtain ⟨n, hn⟩ : ∃ n, n = R.length := ⟨_, rfl⟩
    have hn0 : 0 < n := by rw [hn]; exact five.1
    have okp := fun j => knownAt_okp (Ks := Ks) (n := n) (fun e => by rw [hKs]; exact (eqn0_okp R F dd e).1) j
    refine ⟨_, rfl, by omega, by omega, fun D nD => lc_range (lo := 0) (n := ((R.length : Nat) : Int).toNat) (fun i H' => ∃ b, CaI K H1 H' D n i b (fun s p => Ks s (tgt n p))) ⟨fun _ => 0, Gx.Same.put (Same.refl H1) nD, upd_same, (fun s z => by omega), fun s t z => by omega⟩ ?_ ?_⟩
    · rintro i H2 hi ⟨b, cm⟩
      walk_at "g"
      refine ⟨rfl, ?_⟩
      walk_at "g"
      refine ⟨.ref r, y, c, R, F, l, i, dd, by rw [Int.zero_add], Gx.dp_same (s1.trans cm.sm) _ _ d1, Gx.dp_same (s1.trans cm.sm) _ _ d2, cm.sm _ _ e1, mf, by omega, lp, la, hdd, by omega, fun H5 d vs' s5 n5 e5 q5 => ?_⟩
      rw [← hKs, ← hn] at q5
      exact ⟨_, s5 _ _ cm.dD, Gx.lineL (by rw [List.length_map, List.length_range]; omega), _, cm.step nD s5 n5 e5 q5⟩
    · rintro H2 ⟨b, cm⟩
      rw [show ((R.length : Nat) : Int).toNat = n by omega] at cm
      have af : ArF H1 D n b := ⟨cm.inj, fun s hs => (cm.get s hs).1, fun s hs => (cm.get s hs).2.1⟩
      have ai : ArI K H1 H2 D n b (fun s => s < n) (fun s p => Ks s (tgt n p)) := ⟨cm.sm, cm.dD, fun s hs => (cm.get s hs).2.2⟩
      rw [← hKs, ← hn] at q
      rw [← hn] at hn6 ⊢
      clear cm hxl hx hd d1 d2 lp la
      walk_at "g"
      refine ⟨_, rfl, by omega, by omega, for_range (lo := 0) (n := ((n : Nat) : Int).toNat) (fun i σ H' => ∃ y5 y6 y7 y8 y9 y10 y11 : Option V, ArI K H1 H' D n b (fun s => s + i < n) (fun s p => knownAt Ks n i s (tgt n p)) ∧ (i = n → ∃ vs, H' (b 0) = some (.lst vs) ∧ ArrV K H' vs (n + 1) (fun p => solve1 (knownAt Ks n (n - 1) 0) 0 (tgt n p))) ∧
        σ = [some (.ref r), some y, some (.int n), some (.ref c), some (.ref D), y5, y6, y7, y8, y9, y10, y11]) ⟨_, _, _, _, _, _, _, ai, fun z => by omega, rfl⟩ ?_ ?_⟩
      · rintro i σ H3 hi ⟨y5, y6, y7, y8, y9, y10, y11, a3, _, rfl⟩
        have hin : i < n := by omega
        walk_at "g"
        obtain ⟨k, hk, hkn⟩ : ∃ k : Nat, ((n : Int) - 1 - (0 + (i : Int))) = (k : Int) ∧ k = n - 1 - i := ⟨n - 1 - i, by omega, rfl⟩
        rw [hk]
        clear hk
        have hkl : k < n := by omega
        have okp' : ∀ e, PartsOk (knownAt Ks n i e) 21 := fun e t p hp => by
          obtain ⟨h1, h2⟩ := okp i e t p hp
          exact ⟨h1, by omega⟩
        have nxt : ∀ s, s < k → knownAt Ks n (i + 1) s = stepE (knownAt Ks n i s) (solve1 (knownAt Ks n i k) (k : Int)) (k : Int) := fun s hs => by
          show stepK (knownAt Ks n i) (n - 1 - i) s = _
          rw [← hkn]
          exact stepK_lt hs
        have last : i + 1 = n → k = 0 ∧ knownAt Ks n (n - 1) = knownAt Ks n i := fun z => ⟨by omega, by rw [show n - 1 = i by omega]⟩
        have a3 : ArI K H1 H3 D n b (fun s => s ≤ k) (fun s p => knownAt Ks n i s (tgt n p)) := a3.sub (fun s hs => by omega) fun s _ p _ => rfl
        generalize hKf : knownAt Ks n i = Kf at a3 okp' nxt last
        have okT : PartsOk (solve1 (Kf k) (k : Int)) 23 := solve1_okp (okp' k)
        have noT : solve1 (Kf k) (k : Int) (k : Int) = none := solve1_self _ _
        obtain ⟨Tm, hT⟩ : ∃ Tm, Tm = solve1 (Kf k) (k : Int) := ⟨_, rfl⟩
        obtain ⟨vk, ek, qk⟩ := a3.eq k (Nat.le_refl _)
        obtain ⟨vl, hvl, pvl⟩ := qk.at_ k (by omega)
        rw [tgt_lt hkl] at pvl
        refine Gx.ixL (SqL.of a3.dD) (Gx.atI_of (k := k) rfl (a3.ref hkl)) ?_
        walk_at "g"
        refine Gx.ixL (SqL.of ek) (Gx.atI_of (k := k) rfl hvl) ?_
        walk_at "g"
        refine ⟨fun σ H' => ∃ y7 y8 : Option V, ArI K H1 H' D n b (fun s => s ≤ k) (fun s p => if s = k then Tm (tgt n p) else Kf s (tgt n p)) ∧ σ = [some (.ref r), some y, some (.int n), some (.ref c), some (.ref D), some (.int k), some (.int (0 + i)), y7, y8, y9, y10, y11], ?_, ?_⟩
        · walk_at "g"
          cases hl : Kf k (k : Int) with
          | none =>
            rw [hl] at pvl
            have pvl : vl = .non := pvl
            subst pvl
            walk_at "g"
            refine ⟨_, _, a3.sub (fun s z => z) (fun s _ p _ => ?_), rfl⟩
            by_cases z : s = k
            · subst z
              rw [if_pos rfl, hT]
              unfold solve1
              rw [hl]
            · rw [if_neg z]
          | some lp =>
            rw [hl] at pvl
            have pvl : Dp K H3 vl (partD lp) := pvl
            obtain ⟨al, wl, rfl, hls, hld⟩ := partD_at pvl
            walk_at "g"
            have hTe : ∀ p, Tm (tgt n p) = (if p = k then none else Kf k (tgt n p)).map (inF (.star lp)) := fun p => by
              rw [hT]
              unfold solve1
              rw [hl]
              dsimp only
              by_cases z : p = k
              · rw [if_pos ((tgt_eq hkl).mpr z), if_pos z]
                rfl
              · rw [if_neg (fun w => z ((tgt_eq hkl).mp w)), if_neg z]
            refine Gx.newT (by show 2 ≤ 16777216; decide) (fun a1 H5 E5 => ?_)
            have hls5 := E5.same.seqT hls
            walk_at "g"
            refine Gx.newT (by show 2 ≤ 16777216; decide) (fun a2 H6 E6 => ?_)
            have s6 := E5.same.trans E6.same
            have dl6 : Dp K H6 (.ref a2) (partD (.star lp)) := by
              have hsz : ((lp.size : Nat) : Int) + 1 = (((PP.star lp).size : Nat) : Int) := by simp only [PP.size]; omega
              rw [hsz] at E6
              exact .tup (SqT.of E6.at_) (.cons (.tup (SqT.of (E6.same _ _ E5.at_)) (.cons (.str _) (.cons (Gx.dp_same s6 _ _ hld) .nil))) (.cons (.int _) .nil))
            have a6 := a3.same s6
            have ek6 := s6 _ _ ek
            have qk6 := qk.same s6
            clear hls5 hls hld pvl E5 E6
            walk_at "g"
            refine Gx.ixL (SqL.of a6.dD) (Gx.atI_of (k := k) rfl (a6.ref hkl)) ?_
            walk_at "g"
            refine Gx.setL (j := k) ek6 rfl (by rw [qk6.len]; omega) ?_
            have a7 := a6.set af (fun s z => by omega) (Nat.le_refl k) ek6 qk6 (j := k) (by omega) (v := .non) (o := none) rfl
            have dl7 : Dp K (upd H6 (b k) (.lst (vk.set k .non))) (.ref a2) (partD (.star lp)) := Gx.dp_tups (tupsL ek6) _ _ (noL_part _) dl6
            generalize upd H6 (b k) (.lst (vk.set k .non)) = H7 at a7 dl7 ⊢
            clear a6 ek6 qk6 dl6 a3 ek qk hvl s6
            walk_at "g"
            refine ⟨_, rfl, by omega, by omega, for_range (lo := 0) (n := ((n : Int) + 1).toNat) (fun j σ H' => ∃ y8 : Option V, ArI K H1 H' D n b (fun s => s ≤ k) (fun s p => if s = k then (if p < j then Tm (tgt n p) else if p = k then none else Kf k (tgt n p)) else Kf s (tgt n p)) ∧ Dp K H' (.ref a2) (partD (.star lp)) ∧
              σ = [some (.ref r), some y, some (.int n), some (.ref c), some (.ref D), some (.int k), some (.int (0 + i)), some (.ref a2), y8, y9, y10, y11]) ⟨_, a7.sub (fun s z => z) (fun s _ p _ => ?_), dl7, rfl⟩ ?_ ?_⟩
            · by_cases z : s = k
              · subst z
                rw [if_pos rfl, if_pos rfl, if_neg (Nat.not_lt_zero p)]
              · rw [if_neg z, if_neg z]
            · rintro j σ H8 hj ⟨y8, a8, dl8, rfl⟩
              have hjn : j < n + 1 := by omega
              obtain ⟨v8, e8, q8⟩ := a8.eq k (Nat.le_refl _)
              obtain ⟨vj, hvj, pvj⟩ := q8.at_ j hjn
              rw [if_pos rfl, if_neg (Nat.lt_irrefl _)] at pvj
              walk_at "g"
              refine Gx.ixL (SqL.of a8.dD) (Gx.atI_of (k := k) rfl (a8.ref hkl)) ?_
              walk_at "g"
              refine Gx.ixL (SqL.of e8) (Gx.atI_of (k := j) (by omega) hvj) ?_
              have hT8 := hTe j
              cases ho : (if j = k then none else Kf k (tgt n j)) with
              | none =>
                rw [ho] at pvj hT8
                have pvj : vj = .non := pvj
                subst pvj
                walk_at "g"
                refine ⟨_, a8.sub (fun s z => z) (fun s _ p _ => ?_), dl8, rfl⟩
                by_cases z : s = k
                · rw [if_pos z, if_pos z]
                  by_cases w : p = j
                  · subst w
                    rw [if_neg (Nat.lt_irrefl p), if_pos (Nat.lt_succ_self p), ho, hT8]
                    rfl
                  · exact lt_step _ _ w
                · rw [if_neg z, if_neg z]
              | some p0 =>
                rw [ho] at pvj hT8
                have pvj : Dp K H8 vj (partD p0) := pvj
                obtain ⟨aj, wj, rfl, hjs, hjd⟩ := partD_at pvj
                have hp0 : Kf k (tgt n j) = some p0 := by
                  by_cases z : j = k
                  · rw [if_pos z] at ho; cases ho
                  · rw [if_neg z] at ho; exact ho
                obtain ⟨sg0, dp0⟩ := okp' k _ _ hp0
                walk_at "g"
                refine Gx.ixL (SqL.of a8.dD) (Gx.atI_of (k := k) rfl (a8.ref hkl)) ?_
                walk_at "g"
                refine Gx.ixL (SqL.of e8) (Gx.atI_of (k := j) (by omega) hvj) ?_
                walk_at "g"
                refine ⟨.ref a2, .ref aj, .star lp, p0, rfl, dl8, pvj, sg0, by omega, fun H9 v9 s9 d9 => ?_⟩
                have a9 := a8.same s9
                walk_at "g"
                refine Gx.ixL (SqL.of a9.dD) (Gx.atI_of (k := k) rfl (a9.ref hkl)) ?_
                walk_at "g"
                refine Gx.setL (j := j) (s9 _ _ e8) (by omega) (by rw [q8.len]; exact hjn) ?_
                have a10 := a9.set af (fun s z => by omega) (Nat.le_refl k) (s9 _ _ e8) (q8.same s9) (j := j) hjn (v := v9) (o := some (inF (.star lp) p0)) d9
                refine ⟨_, a10.sub (fun s z => z) (fun s _ p _ => ?_), Gx.dp_tups (tupsL (s9 _ _ e8)) _ _ (noL_part _) (Gx.dp_same s9 _ _ dl8), rfl⟩
                by_cases z : s = k
                · rw [if_pos z, if_pos z]
                  by_cases w : p = j
                  · subst w
                    rw [if_pos rfl, if_pos (Nat.lt_succ_self p), hT8]
                    rfl
                  · rw [if_neg w, if_pos rfl]
                    exact lt_step _ _ w
                · rw [if_neg z, if_neg z, if_neg z]
            · rintro σ H8 ⟨y8, a8, dl8, rfl⟩
              rw [show ((n : Int) + 1).toNat = n + 1 by omega] at a8
              refine ⟨_, _, a8.sub (fun s z => z) (fun s _ p hp => ?_), rfl⟩
              by_cases z : s = k
              · rw [if_pos z, if_pos z, if_pos hp]
              · rw [if_neg z, if_neg z]
        · rintro σ H4 ⟨y7, y8, a4, rfl⟩
          walk_at "g"
          refine ⟨_, rfl, by omega, by omega, for_range (lo := 0) (n := ((k : Nat) : Int).toNat) (fun e σ H' => ∃ y7 y8 y9 y10 y11 : Option V, ArI K H1 H' D n b (fun s => s ≤ k) (fun s p => if s = k then Tm (tgt n p) else if s < e then stepE (Kf s) Tm (k : Int) (tgt n p) else Kf s (tgt n p)) ∧
            σ = [some (.ref r), some y, some (.int n), some (.ref c), some (.ref D), some (.int k), some (.int (0 + i)), y7, y8, y9, y10, y11]) ⟨_, _, _, _, _, a4.sub (fun s z => z) (fun s _ p _ => ?_), rfl⟩ ?_ ?_⟩
          · by_cases z : s = k
            · rw [if_pos z, if_pos z]
            · rw [if_neg z, if_neg z, if_neg (Nat.not_lt_zero s)]
          · rintro e σ H5 he ⟨y7, y8, y9, y10, y11, a5, rfl⟩
            have hek : e < k := by omega
            obtain ⟨ve, ee, qe⟩ := a5.eq e (by omega)
            obtain ⟨vf, hvf, pvf⟩ := qe.at_ k (by omega)
            rw [if_neg (by omega), if_neg (Nat.lt_irrefl _), tgt_lt hkl] at pvf
            walk_at "g"
            refine Gx.ixL (SqL.of a5.dD) (Gx.atI_of (k := e) (by omega) (a5.ref (by omega))) ?_
            walk_at "g"
            refine Gx.ixL (SqL.of ee) (Gx.atI_of (k := k) rfl hvf) ?_
            walk_at "g"
            cases hf : Kf e (k : Int) with
            | none =>
              rw [hf] at pvf
              have pvf : vf = .non := pvf
              subst pvf
              walk_at "g"
              refine ⟨_, _, _, _, _, a5.sub (fun s z => z) (fun s _ p _ => ?_), rfl⟩
              by_cases z : s = k
              · rw [if_pos z, if_pos z]
              · rw [if_neg z, if_neg z]
                by_cases w : s = e
                · subst w
                  rw [if_neg (Nat.lt_irrefl s), if_pos (Nat.lt_succ_self s)]
                  unfold stepE
                  rw [hf]
                · exact lt_step _ _ w
            | some f =>
              rw [hf] at pvf
              have pvf : Dp K H5 vf (partD f) := pvf
              obtain ⟨af', wf, rfl, hfs, hfd⟩ := partD_at pvf
              walk_at "g"
              refine Gx.ixL (SqL.of a5.dD) (Gx.atI_of (k := e) (by omega) (a5.ref (by omega))) ?_
              walk_at "g"
              refine Gx.setL (j := k) ee rfl (by rw [qe.len]; omega) ?_
              have a6 := a5.set af (fun s z => by omega) (show e ≤ k by omega) ee qe (j := k) (by omega) (v := .non) (o := none) rfl
              have df6 : Dp K (upd H5 (b e) (.lst (ve.set k .non))) (.ref af') (partD f) := Gx.dp_tups (tupsL ee) _ _ (noL_part _) pvf
              have hSe : ∀ p, stepE (Kf e) Tm (k : Int) (tgt n p) = match Tm (tgt n p) with
                  | none => (if p = k then none else Kf e (tgt n p))
                  | some q => some (addO (if p = k then none else Kf e (tgt n p)) (inF f q)) := fun p => by
                unfold stepE
                rw [hf]
                dsimp only
                by_cases z : p = k
                · rw [if_pos ((tgt_eq hkl).mpr z), if_pos z]
                  have : Tm (tgt n p) = none := by rw [(tgt_eq hkl).mpr z, hT]; exact noT
                  rw [this]
                · rw [if_neg (fun w => z ((tgt_eq hkl).mp w)), if_neg z]
                  rfl
              generalize upd H5 (b e) (.lst (ve.set k .non)) = H6 at a6 df6 ⊢
              clear a5 ee qe hvf pvf hfs hfd
              walk_at "g"
              refine ⟨_, rfl, by omega, by omega, for_range (lo := 0) (n := ((n : Int) + 1).toNat) (fun j σ H' => ∃ y8 y11 : Option V, ArI K H1 H' D n b (fun s => s ≤ k) (fun s p => if s = k then Tm (tgt n p) else if s = e then (if p < j then stepE (Kf e) Tm (k : Int) (tgt n p) else if p = k then none else Kf e (tgt n p)) else if s < e then stepE (Kf s) Tm (k : Int) (tgt n p) else Kf s (tgt n p)) ∧ Dp K H' (.ref af') (partD f) ∧
                σ = [some (.ref r), some y, some (.int n), some (.ref c), some (.ref D), some (.int k), some (.int (0 + i)), y7, y8, some (.int (0 + e)), some (.ref af'), y11]) ⟨_, _, a6.sub (fun s z => z) (fun s _ p _ => ?_), df6, rfl⟩ ?_ ?_⟩
              · by_cases z : s = e
                · subst z
                  rw [if_pos rfl, if_neg (show ¬ s = k by omega), if_neg (show ¬ s = k by omega), if_pos rfl, if_neg (Nat.not_lt_zero p), if_neg (Nat.lt_irrefl s)]
                · rw [if_neg z, if_neg z]
              · rintro j σ H8 hj ⟨y8, y11, a8, df8, rfl⟩
                have hjn : j < n + 1 := by omega
                obtain ⟨v8, e8, q8⟩ := a8.eq k (Nat.le_refl _)
                obtain ⟨vj, hvj, pvj⟩ := q8.at_ j hjn
                rw [if_pos rfl] at pvj
                have hS8 := hSe j
                walk_at "g"
                refine Gx.ixL (SqL.of a8.dD) (Gx.atI_of (k := k) rfl (a8.ref hkl)) ?_
                walk_at "g"
                refine Gx.ixL (SqL.of e8) (Gx.atI_of (k := j) (by omega) hvj) ?_
                cases hq : Tm (tgt n j) with
                | none =>
                  rw [hq] at pvj hS8
                  have pvj : vj = .non := pvj
                  subst pvj
                  walk_at "g"
                  refine ⟨_, _, a8.sub (fun s z => z) (fun s _ p _ => ?_), df8, rfl⟩
                  by_cases z : s = k
                  · rw [if_pos z, if_pos z]
                  · rw [if_neg z, if_neg z]
                    by_cases z2 : s = e
                    · rw [if_pos z2, if_pos z2]
                      by_cases w : p = j
                      · subst w
                        rw [if_neg (Nat.lt_irrefl p), if_pos (Nat.lt_succ_self p), hS8]
                      · exact lt_step _ _ w
                    · rw [if_neg z2, if_neg z2]
                | some q0 =>
                  rw [hq] at pvj hS8
                  have pvj : Dp K H8 vj (partD q0) := pvj
                  obtain ⟨aj, wj, rfl, hjs, hjd⟩ := partD_at pvj
                  obtain ⟨sg0, dp0⟩ := okT _ _ (by rw [← hT]; exact hq)
                  walk_at "g"
                  refine Gx.ixL (SqL.of a8.dD) (Gx.atI_of (k := k) rfl (a8.ref hkl)) ?_
                  walk_at "g"
                  refine Gx.ixL (SqL.of e8) (Gx.atI_of (k := j) (by omega) hvj) ?_
                  walk_at "g"
                  refine ⟨.ref af', .ref aj, f, q0, rfl, df8, pvj, sg0, by omega, fun H9 v9 s9 d9 => ?_⟩
                  have a9 := a8.same s9
                  obtain ⟨ve9, ee9, qe9⟩ := a9.eq e (by omega)
                  obtain ⟨vE, hvE, pvE⟩ := qe9.at_ j hjn
                  rw [if_neg (show ¬ e = k by omega), if_pos rfl, if_neg (Nat.lt_irrefl j)] at pvE
                  walk_at "g"
                  refine Gx.ixL (SqL.of a9.dD) (Gx.atI_of (k := e) (by omega) (a9.ref (by omega))) ?_
                  walk_at "g"
                  refine Gx.ixL (SqL.of ee9) (Gx.atI_of (k := j) (by omega) hvE) ?_
                  walk_at "g"
                  refine ⟨vE, v9, _, inF f q0, rfl, pvE, d9, fun H10 v10 s10 d10 => ?_⟩
                  have a10 := a9.same s10
                  have ee10 := s10 _ _ ee9
                  have qe10 := qe9.same s10
                  walk_at "g"
                  refine Gx.ixL (SqL.of a10.dD) (Gx.atI_of (k := e) (by omega) (a10.ref (by omega))) ?_
                  walk_at "g"
                  refine Gx.setL (j := j) ee10 (by omega) (by rw [qe10.len]; exact hjn) ?_
                  have a11 := a10.set af (fun s z => by omega) (show e ≤ k by omega) ee10 qe10 (j := j) hjn (v := v10) (o := some _) d10
                  refine ⟨_, _, a11.sub (fun s z => z) (fun s _ p _ => ?_), Gx.dp_tups (tupsL ee10) _ _ (noL_part _) (Gx.dp_same (s9.trans s10) _ _ df8), rfl⟩
                  by_cases z2 : s = e
                  · subst z2
                    rw [if_pos rfl, if_neg (show ¬ s = k by omega), if_pos rfl, if_neg (show ¬ s = k by omega), if_pos rfl]
                    by_cases w : p = j
                    · subst w
                      rw [if_pos rfl, if_pos (Nat.lt_succ_self p), hS8]
                    · rw [if_neg w]
                      exact lt_step _ _ w
                  · rw [if_neg z2, if_neg z2, if_neg z2]
              · rintro σ H8 ⟨y8, y11, a8, df8, rfl⟩
                rw [show ((n : Int) + 1).toNat = n + 1 by omega] at a8
                refine ⟨_, _, _, _, _, a8.sub (fun s z => z) (fun s _ p hp => ?_), rfl⟩
                by_cases z : s = k
                · rw [if_pos z, if_pos z]
                · rw [if_neg z, if_neg z]
                  by_cases z2 : s = e
                  · subst z2
                    rw [if_pos rfl, if_pos hp, if_pos (Nat.lt_succ_self s)]
                  · rw [if_neg z2]
                    exact lt_step _ _ z2
          · rintro σ H5 ⟨y7, y8, y9, y10, y11, a5, rfl⟩
            rw [show ((k : Nat) : Int).toNat = k by omega] at a5
            refine ⟨_, _, _, _, _, _, _, a5.sub (fun s z => by omega) (fun s z p _ => ?_), fun z => ?_, rfl⟩
            · rw [if_neg (by omega), if_pos (by omega), nxt s (by omega), hT]
            · obtain ⟨k0, kl⟩ := last z
              obtain ⟨vs, e5, q5⟩ := a5.eq 0 (Nat.zero_le _)
              refine ⟨vs, e5, q5.cong fun p _ => ?_⟩
              rw [if_pos k0.symm, kl, hT, k0]
              rfl
      · rintro σ H3 ⟨y5, y6, y7, y8, y9, y10, y11, a3, l3, rfl⟩
        obtain ⟨vs, e3, q3⟩ := l3 (by omega)
        obtain ⟨v, hv, dv⟩ := q3.at_ n (by omega)
        rw [show tgt n n = -1 from if_pos rfl] at dv
        walk_at "g"
        refine Gx.ixL (SqL.of a3.dD) (Gx.atI_of (k := 0) rfl (a3.ref hn0)) ?_
        walk_at "g"
        refine Gx.ixL (SqL.of e3) (Gx.atI_of (k := n) rfl hv) ?_
        exact q H3 v (s1.trans a3.sm) dv
end
end K15
namespace K15
open PySem PySem.Spec PyProof.Rows L2
local macro_rules | `(tactic| walk_at "con") => `(tactic| first | with_reducible refine Gx.conE K15.ks0 ?_ | with_reducible refine Gx.conE K15.ks1 ?_ | with_reducible refine Gx.conE K15.ks2 ?_ | with_reducible refine Gx.conE K15.ks3 ?_ | with_reducible refine Gx.conE K15.ks4 ?_ | with_reducible refine Gx.conE K15.ks5 ?_ | with_reducible refine Gx.conE K15.ks6 ?_ | with_reducible refine Gx.conE K15.ks7 ?_ | with_reducible refine Gx.conE K15.ks8 ?_ | with_reducible refine Gx.conE K15.ks9 ?_ | with_reducible refine Gx.conE K15.ks10 ?_ | with_reducible refine Gx.conE K15.ks11 ?_ | with_reducible refine Gx.conE K15.ks12 ?_ | with_reducible refine Gx.conE K15.ks13 ?_ | with_reducible refine Gx.conE K15.ks14 ?_ | with_reducible refine Gx.conE K15.ks15 ?_)
section
variable {P : Program} {w : World} {K : PySem.W.Frag} {mg : Str → Option Value} {base : Heap}
/-- what the law finds -/
def solR (R : List (List Nat)) (F : List Bool) (dd : Int) : Option PP := solve1 (knownAt (eqn0 R F dd) R.length (R.length - 1) 0) 0 (-1)
def triedD (limit : Int) : Option PP → PyData
  | none => .tuple [.str (Gx.mkS [116, 111, 108, 100]), .none]
  | some G => if (G.size : Int) ≤ limit then .tuple [.str (Gx.mkS [116, 111, 108, 100]), ppD G] else .tuple [.str (Gx.mkS [114, 101, 102, 117, 115, 101, 100]), .int limit]
theorem sol_dead {R : List (List Nat)} {F : List Bool} {dd : Int} (m : MF R F) (hd : DeadI R F dd) (h : DeadAt R F 0) : solR R F dd = none := by
  have st := start_of m hd
  have hn := m.five.1
  obtain ⟨_, h2, _⟩ := start_at st (R.length - 1) (by omega)
  have hdd : ((0 : Nat) : Int) = dd := by
    rcases hd with ⟨_, g⟩ | ⟨d, g1, g2, g3⟩
    · exact absurd h (g 0 hn)
    · have := m.one_dead hn g1 h g3
      omega
  obtain ⟨g, _⟩ := h2 0 hdd
  unfold solR solve1
  rw [g]
  exact g (-1)
theorem sol_live {R : List (List Nat)} {F : List Bool} {dd : Int} (m : MF R F) (hd : DeadI R F dd) (h : ¬ DeadAt R F 0) : ∃ G, solR R F dd = some G := by
  obtain ⟨G, hG, _⟩ := made_all (start_of m hd) m.five.1 (fun z => by
    rcases hd with ⟨g, _⟩ | ⟨d, g1, g2, g3⟩
    · omega
    · have : d = 0 := by omega
      subst this
      exact h g3)
  exact ⟨G, hG⟩
theorem dead_uniq {R : List (List Nat)} {F : List Bool} (m : MF R F) {d e : Int} (h : DeadI R F d) (g : DeadI R F e) : d = e := by
  rcases h with ⟨h1, h2⟩ | ⟨a, a1, a2, a3⟩
  · rcases g with ⟨g1, _⟩ | ⟨b, b1, b2, b3⟩
    · omega
    · exact absurd b3 (h2 b b1)
  · rcases g with ⟨_, g2⟩ | ⟨b, b1, b2, b3⟩
    · exact absurd a3 (g2 a a1)
    · have := m.one_dead a1 b1 a3 b3
      omega
theorem callSD {sp : Sp} {dvs : List V} {E : L2.St → XK} {t : TA} {σ : L2.St} {H : Hp} {Q : VK} (h : t σ H fun vs H1 => sp (vs ++ dvs) H1 Q (E σ)) : tCallSD sp dvs E t σ H Q := h
def sp_tried (K : PySem.W.Frag) (C : Addr) : Sp := fun vs H Q _ => ∃ (p : Addr) (R : List (List Nat)) (F : List Bool) (wide : Bool) (dd : Int), vs = [.ref p, .bl wide] ∧ MachAt K C H p R F ∧ MF R F ∧ R.length ≤ 6 ∧ DeadI R F dd ∧
  ∀ H' v, Same H H' → Dp K H' v (triedD (if wide then 99 else 60) (solR R F dd)) → Q v H'
theorem G__law_tried (T : Txt K mg w) : FnOk P w K mg base CX0 7 T.f__law_tried T.fd__law_tried ["machine", "wide"] (sp_tried K T.a_Machine) := by
  have G_pattern_of := G_pattern_of (P := P) (w := w) (base := base) T
  refine T.F__law_tried.ok sc__law_tried (fun vs H Q E h => ?_) (fun cdv A outer s H vs Q E hr h => ?_)
  · obtain ⟨p, R, F, wide, dd, rfl, _⟩ := h
    rfl
  · obtain ⟨p, R, F, wide, dd, rfl, hm, mf, hn6, hdd, q⟩ := h
    have hr6 : Room 6 _ := hr.mono (by decide)
    refine ⟨_, ((C8.pss_cut (ps_try_as (i := 3) (tb := (fun W => tIfS (tB (tVar 1)) (tAsg (Gx.tCallNS 1 (List.length (["most"] : List Str)) (sp_pattern K T.a_Machine T.a_TooMany) (fun vs zs => vs ++ zs) (WE W) (tCons (tVar 0) tNil) (tCons (tC (.int 99)) tNil)) (gName 2)) (tAsg (tCallSD (sp_pattern K T.a_Machine T.a_TooMany) [V.int 60] (WE W) (tCons (tVar 0) tNil)) (gName 2)))) (ts := (fun a cls d => tRet (tTup (tCons (tC (.str (Str.ofString "refused"))) (tCons (Gx.tByO T.a_TooMany "limit" a cls d (tVar 3)) tNil))))) (Wout := fun _ _ _ _ => False) rfl rfl sc__law_tried.nd rfl rfl ⟨rfl, by decide, .inl T.g_TooMany⟩ takes0 (fun W pn xe tk _ => pss_one (ps_if (pt_val (pv 1)) (pss_one (ps_set (i := 2) sc__law_tried.nd rfl (Or.inl rfl) (by exact (Gx.pe_callNS (n := 1) (ks := ["most"]) G_pattern_of hr6 rfl T.g_pattern_of T.F_pattern_of.kp T.bk_pattern_of (fun σ => passAt tk σ) (by exact (pa_cons (pv 0) pa_nil)) (by exact (pk_cons pe_int pk_nil)))))) (pss_one (ps_set (i := 2) sc__law_tried.nd rfl (Or.inl rfl) (by exact (pe_callSD G_pattern_of hr6 rfl T.g_pattern_of T.F_pattern_of.kp T.b_pattern_of T.dv_pattern_of (fun σ => passAt tk σ) (by exact (pa_cons (pv 0) pa_nil)))))))) (fun a oe cls d pn hz hf => pss_one (ps_ret (by exact (pe_tup (by exact (pa_cons pe_str (pa_cons (Gx.pe_byO T.ec_TooMany T.on_TooMany hz hf (pv 3)) pa_nil)))))))) 
  (pss_one (ps_ret (pe_tup (pa_cons pe_str (pa_cons (pv 2) pa_nil))))))), ?_⟩
    rw [st__law_tried]
    try dsimp only [cxOf]
    refine ⟨fun σ H' => Same H H' ∧ ∃ (v : V), (Dp K H' v (match solR R F dd with | none => PyData.none | some G => ppD G) ∧ ∀ G, solR R F dd = some G → (G.size : Int) ≤ (if wide then 99 else 60)) ∧ σ = [some (.ref p), some (.bl wide), some v, none], ?_, ?_⟩
    · show tIfS _ _ _ _ _ _
      obtain ⟨lim, hlim⟩ : ∃ lim : Int, lim = (if wide then 99 else 60) := ⟨_, rfl⟩
      rw [← hlim] at q ⊢
      have okN : DeadAt R F 0 → ∀ H', Same H H' → Dp K H' .non (match solR R F dd with | none => PyData.none | some G => ppD G) ∧ ∀ G, solR R F dd = some G → (G.size : Int) ≤ lim := fun hz H' _ => by
        rw [sol_dead mf hdd hz]
        exact ⟨.non, fun _ z => nomatch z⟩
      have okV : ∀ dd' G, DeadI R F dd' → solve1 (knownAt (eqn0 R F dd') R.length (R.length - 1) 0) 0 (-1) = some G → solR R F dd = some G := fun dd' G h1 h2 => by
        rw [dead_uniq mf hdd h1]
        exact h2
      have fin : ∀ G, solR R F dd = some G → ¬ (G.size : Int) ≤ lim → ∀ H' d, Same H H' → H' d = some (xdL lim) → ∀ D : Ends, D.rt = Q → wAs K (.ref T.a_TooMany) 3 (fun a cls d => tRet (tTup (tCons (tC (.str (Str.ofString "refused"))) (tCons (Gx.tByO T.a_TooMany "limit" a cls d (tVar 3)) tNil)))) (fun _ _ _ _ => False) D (.ref T.a_TooMany) (some d) [some (.ref p), some (.bl wide), none, none] H' := by
        intro G hG hn H' d s' ed D hD
        refine ⟨true, T.em_tm, fun _ x na => ?_, fun z => nomatch z⟩
        walk_at "g"
        refine ⟨_, rfl, rfl, rfl, d, _, _, rfl, ed, rfl, ?_⟩
        walk_at "g"
        refine Gx.newT (by show 2 ≤ 16777216; decide) (fun a1 H5 E5 => ?_)
        show D.rt _ _
        rw [hD]
        refine q H5 _ (s'.trans E5.same) ?_
        rw [hG]
        unfold triedD
        dsimp only
        rw [if_neg hn]
        exact .tup (SqT.of E5.at_) (.cons (.str _) (.cons (.int _) .nil))
      walk_at "g"
      refine Gx.iteB (fun hb => ?_) (fun hb => ?_)
      · have hl : lim = 99 := by rw [hlim, hb]; rfl
        subst hl
        walk_at "g"
        refine ⟨rfl, rfl, p, R, F, 99, rfl, hm, mf, hn6, by decide, fun hz H' s' => ?_, fun dd' G h1 h2 h3 => ⟨fun hle v H' s' dv => ?_, fun hn H' d s' nd ed => ?_⟩⟩
        · obtain ⟨a, b⟩ := okN hz H' s'
          exact ⟨s', _, ⟨a, b⟩, rfl⟩
        · have hG := okV dd' G h1 h3
          refine ⟨s', v, ⟨?_, fun G' hG' => ?_⟩, rfl⟩
          · rw [hG]
            exact dv
          · rw [hG] at hG'
            cases hG'
            exact hle
        · exact fin G (okV dd' G h1 h3) hn H' d s' ed _ rfl
      · have hl : lim = 60 := by rw [hlim, hb]; rfl
        subst hl
        walk_at "g"
        refine callSD ?_
        walk_at "g"
        refine ⟨p, R, F, 60, rfl, hm, mf, hn6, by decide, fun hz H' s' => ?_, fun dd' G h1 h2 h3 => ⟨fun hle v H' s' dv => ?_, fun hn H' d s' nd ed => ?_⟩⟩
        · obtain ⟨a, b⟩ := okN hz H' s'
          exact ⟨s', _, ⟨a, b⟩, rfl⟩
        · have hG := okV dd' G h1 h3
          refine ⟨s', v, ⟨?_, fun G' hG' => ?_⟩, rfl⟩
          · rw [hG]
            exact dv
          · rw [hG] at hG'
            cases hG'
            exact hle
        · exact fin G (okV dd' G h1 h3) hn H' d s' ed _ rfl
    · rintro σ H' ⟨s', v, ⟨dv, hs⟩, rfl⟩
      walk_at "g"
      refine Gx.newT (by show 2 ≤ 16777216; decide) (fun a1 H5 E5 => ?_)
      refine q H5 _ (s'.trans E5.same) ?_
      cases ho : solR R F dd with
      | none =>
        rw [ho] at dv
        exact .tup (SqT.of E5.at_) (.cons (.str _) (.cons (Gx.dp_same E5.same _ _ dv) .nil))
      | some G =>
        rw [ho] at dv
        unfold triedD
        dsimp only
        rw [if_pos (hs G ho)]
        exact .tup (SqT.of E5.at_) (.cons (.str _) (.cons (Gx.dp_same E5.same _ _ dv) .nil))
end
end K15
namespace K15
open PySem PySem.Spec PyProof.Rows L2
local macro_rules | `(tactic| walk_at "con") => `(tactic| first | with_reducible refine Gx.conE K15.ks0 ?_ | with_reducible refine Gx.conE K15.ks1 ?_ | with_reducible refine Gx.conE K15.ks2 ?_ | with_reducible refine Gx.conE K15.ks3 ?_ | with_reducible refine Gx.conE K15.ks4 ?_ | with_reducible refine Gx.conE K15.ks5 ?_ | with_reducible refine Gx.conE K15.ks6 ?_ | with_reducible refine Gx.conE K15.ks7 ?_ | with_reducible refine Gx.conE K15.ks8 ?_ | with_reducible refine Gx.conE K15.ks9 ?_ | with_reducible refine Gx.conE K15.ks10 ?_ | with_reducible refine Gx.conE K15.ks11 ?_ | with_reducible refine Gx.conE K15.ks12 ?_ | with_reducible refine Gx.conE K15.ks13 ?_ | with_reducible refine Gx.conE K15.ks14 ?_ | with_reducible refine Gx.conE K15.ks15 ?_)
section
variable {P : Program} {w : World} {K : PySem.W.Frag} {mg : Str → Option Value} {base : Heap}
open Classical in
theorem dead_ex (R : List (List Nat)) (F : List Bool) : ∃ dd, DeadI R F dd := by
  by_cases h : ∃ s, s < R.length ∧ DeadAt R F s
  · obtain ⟨s, h1, h2⟩ := h
    exact ⟨(s : Int), .inr ⟨s, h1, rfl, h2⟩⟩
  · exact ⟨-1, .inl ⟨rfl, fun s hs hd => h ⟨s, hs, hd⟩⟩⟩
theorem sol_okp {R : List (List Nat)} {F : List Bool} {dd : Int} (hn : R.length ≤ 6) {G : PP} (h : solR R F dd = some G) : G.sg ∧ G.depth ≤ 23 := by
  have := solve1_okp (s := 0) (knownAt_okp (n := R.length) (fun e => (eqn0_okp R F dd e).1) (R.length - 1) 0) (-1) G h
  exact ⟨this.1, by omega⟩
theorem tried_ok {R : List (List Nat)} {F : List Bool} {dd : Int} (hn : R.length ≤ 6) (lim : Int) : Gx.okD (triedD lim (solR R F dd)) = true ∧ PyData.depth (triedD lim (solR R F dd)) ≤ 60 := by
  have h1 : PyData.strOk (Gx.mkS [116, 111, 108, 100]) = true := by decide +kernel
  have h2 : PyData.strOk (Gx.mkS [114, 101, 102, 117, 115, 101, 100]) = true := by decide +kernel
  cases ho : solR R F dd with
  | none =>
    refine ⟨?_, ?_⟩
    · simp [triedD, Gx.okD, Gx.okDs, h1]
    · simp [triedD, PyData.depth, PyData.depthAll]
  | some G =>
    obtain ⟨sg, dp⟩ := sol_okp hn ho
    have h3 := PP.okD G sg
    have h4 := PP.depD G
    unfold triedD
    dsimp only
    by_cases z : (G.size : Int) ≤ lim
    · rw [if_pos z]
      refine ⟨?_, ?_⟩
      · simp [Gx.okD, Gx.okDs, h1, h3]
      · simp only [PyData.depth, PyData.depthAll]
        omega
    · rw [if_neg z]
      refine ⟨?_, ?_⟩
      · simp [Gx.okD, Gx.okDs, h2]
      · simp [PyData.depth, PyData.depthAll]
theorem okDs_ints : ∀ l : List Nat, Gx.okDs (l.map fun n => PyData.int (n : Nat)) = true
  | [] => rfl
  | n :: l => by simp only [List.map_cons, Gx.okDs, Gx.okD, okDs_ints l, Bool.and_self]
theorem okDs_rows : ∀ l : List (List Nat), (∀ r ∈ l, r.length = 5) → Gx.okDs (l.map rowD) = true
  | [], _ => rfl
  | r :: l, h => by
    have h1 := okDs_rows l fun x hx => h x (List.mem_cons_of_mem _ hx)
    have h2 := h r List.mem_cons_self
    have h3 : decide ((r.map fun n : Nat => PyData.int (n : Int)).length ≤ 100000) = true := decide_eq_true (by rw [List.length_map]; omega)
    simp only [List.map_cons, Gx.okDs, h1, Bool.and_true, rowD, Gx.okD, okDs_ints, h3]
theorem okDs_bools : ∀ l : List Bool, Gx.okDs (l.map PyData.bool) = true
  | [] => rfl
  | r :: l => by simp only [List.map_cons, Gx.okDs, Gx.okD, okDs_bools l, Bool.and_self]
def bothD (R : List (List Nat)) (F : List Bool) : PyData := .list [rowsD R, finsD F]
theorem both_ok {R : List (List Nat)} {F : List Bool} (five : Five R) (hn : R.length ≤ 6) (hf : F.length = R.length) : Gx.okD (bothD R F) = true ∧ PyData.depth (bothD R F) ≤ 60 := by
  refine ⟨?_, ?_⟩
  · have h1 := okDs_rows R fun r hr => by
      obtain ⟨i, hi, rfl⟩ := List.mem_iff_getElem.mp hr
      have := (five.2 i hi).1
      rw [List.getD_eq_getElem?_getD, List.getElem?_eq_getElem hi] at this
      exact this
    have h2 : decide ((R.map rowD).length ≤ 100000) = true := decide_eq_true (by rw [List.length_map]; omega)
    have h3 : decide ((F.map PyData.bool).length ≤ 100000) = true := decide_eq_true (by rw [List.length_map]; omega)
    have h4 : decide (([PyData.tuple (R.map rowD), PyData.tuple (F.map PyData.bool)] : List PyData).length ≤ 100000) = true := decide_eq_true (by show 2 ≤ 100000; decide)
    simp only [bothD, Gx.okD, Gx.okDs, rowsD, finsD, h1, okDs_bools, h2, h3, h4, Bool.and_self]
  · have h1 := dep_rows R
    have h2 := dep_fins F
    simp only [bothD, PyData.depth, PyData.depthAll, rowsD, finsD] at *
    omega
def sp_told (K : PySem.W.Frag) : Sp := fun vs H Q _ => ∃ (u a f : Addr) (rows : List (List Nat)) (fin : List Bool), vs = [.ref u] ∧ H u = some (.tup [.ref a, .ref f]) ∧ LsAt K H a rows ∧ SqL K H f (fin.map V.bl) ∧ Five rows ∧ rows.length ≤ 6 ∧ fin.length = rows.length ∧ ∀ H', Same H H' → Q (.bl true) H'
set_option maxHeartbeats 4000000 in
theorem G__law_told (T : Txt K mg w) : FnOk P w K mg base CX0 63 T.f__law_told T.fd__law_told ["automaton"] (sp_told K) := by
  have G_Machine_init := G_Machine_init (P := P) (w := w) (base := base) T
  have G__law_least := G__law_least (P := P) (w := w) (base := base) T
  have G__law_solved := G__law_solved (P := P) (w := w) (base := base) T
  have G__law_tried := G__law_tried (P := P) (w := w) (base := base) T
  have G__law_same := G__law_same (P := P) (w := w) (base := base) T
  refine T.F__law_told.ok sc__law_told (fun vs H Q E h => ?_) (fun cdv A outer s H vs Q E hr h => ?_)
  · obtain ⟨u, a, f, rows, fin, rfl, _⟩ := h
    rfl
  · obtain ⟨u, a, f, rows, fin, rfl, hu, hR, hF, five, hn6, hfl, q⟩ := h
    obtain ⟨vs0, hS, hl, hrow⟩ := id hR
    refine ⟨_, ((pss_cons (ps_set (i := 1) sc__law_told.nd rfl (Or.inl rfl) (pe_make T.M_Machine G_Machine_init (hr.mono (by first | decide | omega)) (by rfl) T.g_Machine T.b_Machine_init .nil pass0 (pa_cons (pe_lc (own := [("row", 2)]) (g := (gName 2)) (tt := tYes) (by rfl) sc__law_told.nd (pi_list (pe_ix ix_tup (pv 0) pe_int (fun _ _ => rfl))) (blkOk_by (N := ["automaton", "machine", "row", "due", "solved_v", "wide", "limit", "wanted"]) (sc := defScope s__law_told) (by decide +kernel)) (fun _ _ _ _ _ => (pg_name (i := 2) sc__law_told.nd rfl (Or.inl rfl))) (fun _ _ _ _ _ => pts_nil) (fun _ _ _ _ _ => (pe_callTy (r := Gx.rListQ K) Gx.cr_listQ (by rfl) T.z_list bt_list (pa_cons (pv 2) pa_nil)))) (pa_cons (pe_callTy call_list_of (by rfl) T.z_list bt_list (pa_cons (pe_ix ix_tup (pv 0) pe_int (fun _ _ => rfl)) pa_nil)) pa_nil))))
  (pss_cons (ps_set (i := 3) sc__law_told.nd rfl (Or.inl rfl) (pe_call G__law_least (hr.mono (by first | decide | omega)) (by rfl) T.g__law_least T.F__law_least.kp T.b__law_least .nil pass0 (pa_cons (pe_ix ix_tup (pv 0) pe_int (fun _ _ => rfl)) (pa_cons (pe_ix ix_tup (pv 0) pe_int (fun _ _ => rfl)) pa_nil))))
  (pss_cons (ps_set (i := 4) sc__law_told.nd rfl (Or.inl rfl) (pe_call G__law_solved (hr.mono (by first | decide | omega)) (by rfl) T.g__law_solved T.F__law_solved.kp T.b__law_solved .nil pass0 (pa_cons (pe_ix ix_tup (pv 3) pe_int (fun _ _ => rfl)) (pa_cons (pe_ix ix_tup (pv 3) pe_int (fun _ _ => rfl)) pa_nil))))
  (pss_cons (ps_for PassesOwn.never rfl (pi_list (pe_lst (pa_cons pe_bl (pa_cons pe_bl (pa_cons pe_bl pa_nil))))) (pg_name (i := 5) sc__law_told.nd rfl (Or.inl rfl))
  (pss_cons (ps_set (i := 6) sc__law_told.nd rfl (Or.inl rfl) (pe_op op_add pe_int (pe_op op_mul pe_int (pe_callTy Gx.cr_int1 (by rfl) T.z_int bt_int (pa_cons (pv 5) pa_nil)))))
  (pss_cons (ps_set (i := 7) sc__law_told.nd rfl (Or.inl rfl) (pe_tup (pa_cons pe_str (pa_cons (pv 6) pa_nil))))
  (C8.pss_cut (ps_if (pt_cmpR Gx.op_isNG (pv 4) pe_non (nomark _))
  (pss_one (ps_set (i := 7) sc__law_told.nd rfl (Or.inl rfl) (pe_tup (pa_cons pe_str (pa_cons pe_non pa_nil)))))
  (pss_one (ps_if (pt_cmpR op_le (pe_ix ix_tup (pv 4) pe_int (fun _ _ => rfl)) (pv 6) (nomark _))
  (pss_one (ps_set (i := 7) sc__law_told.nd rfl (Or.inl rfl) (pe_tup (pa_cons pe_str (pa_cons (pe_ix ix_tup (pv 4) pe_int (fun _ _ => rfl)) pa_nil)))))
  pss_nil)))
  (pss_one (ps_if (pt_not (pt_val (pe_call G__law_same (hr.mono (by first | decide | omega)) (by rfl) T.g__law_same T.F__law_same.kp T.b__law_same .nil pass0 (pa_cons (pe_call G__law_tried (hr.mono (by first | decide | omega)) (by rfl) T.g__law_tried T.F__law_tried.kp T.b__law_tried .nil pass0 (pa_cons (pv 1) (pa_cons (pv 5) pa_nil))) (pa_cons (pv 7) pa_nil)))))
  (pss_one (ps_ret pe_bl))
  pss_nil))))))
  (pss_one (ps_ret (pe_call G__law_same (hr.mono (by first | decide | omega)) (by rfl) T.g__law_same T.F__law_same.kp T.b__law_same .nil pass0 (pa_cons (pe_lst (pa_cons (pe_fld (pv 1) rfl) (pa_cons (pe_fld (pv 1) rfl) pa_nil))) (pa_cons (pe_lst (pa_cons (pe_ix ix_tup (pv 3) pe_int (fun _ _ => rfl)) (pa_cons (pe_ix ix_tup (pv 3) pe_int (fun _ _ => rfl)) pa_nil))) pa_nil)))))))))), ?_⟩
    clear G_Machine_init G__law_least G__law_solved G__law_tried G__law_same
    rw [st__law_told]
    try dsimp only [cxOf]
    have hu' := SqT.of (K := K) hu
    walk_at "g"
    have hcp : ∀ i, ∀ row ∈ rows.take i, row.length = 5 := fun i row hr => by
      obtain ⟨j, hj, rfl⟩ := List.mem_iff_getElem.mp (List.mem_of_mem_take hr)
      have := (five.2 j hj).1
      rw [List.getD_eq_getElem?_getD, List.getElem?_eq_getElem hj] at this
      exact this
    refine ⟨⟨_, hS⟩, fun D nD => lc_list (xs := vs0) (fun i H' => Same H H' ∧ LsP H' D ((rows.take i).map fun row => row.map fun n => V.int (n : Nat))) ⟨Gx.Same.put (Same.refl H) nD, .nil upd_same⟩ (fun i H' _ z => z.1.seq hS) ?_ ?_⟩
    · rintro i x H2 hi ⟨s2, m2⟩
      have hil : i < rows.length := by rw [← hl]; exact (List.getElem?_eq_some_iff.mp hi).1
      obtain ⟨r, v1, q1⟩ := hrow i _ (row_get hil)
      rw [v1] at hi
      cases hi
      walk_at "g"
      refine ⟨rfl, ?_⟩
      walk_at "g"
      refine ⟨r, _, rfl, .inl (s2.seq q1), fun E nE => ?_⟩
      obtain ⟨acc, h1, h2, h3⟩ := m2.snoc (Gx.Same.put (Same.refl H2) nE) nE (E := E) (row := (rows.getD i []).map fun n => V.int (n : Nat)) upd_same
      refine ⟨acc, h1, Gx.lineL (by rw [h2, List.length_map, List.length_take]; omega), Gx.Same.put (s2.trans (Gx.Same.put (Same.refl H2) nE)) nD, ?_⟩
      rw [List.take_add_one, row_get hil, Option.toList_some, List.map_append]
      exact h3
    · rintro H2 ⟨s2, m2⟩
      rw [List.take_of_length_le (by omega)] at m2
      have hR2 := m2.lsAt (K := K)
      have hu2 := s2.seqT hu'
      walk_at "g"
      refine ⟨f, _, rfl, .inl (s2.seq hF), fun f3 nf3 => ?_⟩
      have s3 : Same H (upd H2 f3 (.lst (fin.map V.bl))) := s2.trans (Gx.Same.put (Same.refl H2) nf3)
      have e3 : (upd H2 f3 (.lst (fin.map V.bl))) f3 = some (.lst (fin.map V.bl)) := upd_same
      have hR3 := hR2.same (Gx.Same.put (Same.refl H2) nf3 (o := .lst (fin.map V.bl)))
      generalize upd H2 f3 (.lst (fin.map V.bl)) = H3 at s3 e3 hR3 ⊢
      clear m2 hR2 hu2 s2
      walk_at "g"
      refine mk_mach hR3.rows (five.ok (by omega)) (.inl (SqL.of e3)) hfl (fun o mk pk L => by have := least_le L; omega) fun H4 pm o1 mk1 pk1 s4 L1 hm4 => ?_
      have mf := MF.of five L1
      have hpk := least_le L1
      have hn6' : (lRows rows mk1 pk1).length ≤ 6 := by unfold lRows; rw [List.length_map]; omega
      have s04 := s3.trans s4
      clear hR3 e3
      have hu4 := s04.seqT hu'
      walk_at "g"
      refine ⟨a, f, rows, fin, rfl, hR.same s04, five, by omega, s04.seq hF, hfl, fun H5 u2 x y R F s5 e5 dx dy lw => ?_⟩
      obtain ⟨eR, eF⟩ := lw.same five (Sim.refl rows fin) rfl L1
      rw [eR, eF] at mf hm4
      rw [eR] at hn6'
      clear eR eF L1 hpk lw
      obtain ⟨dd, hdd⟩ := dead_ex R F
      have hu5 := SqT.of (K := K) e5
      have s05 := s04.trans s5
      walk_at "g"
      refine ⟨x, y, R, F, dd, rfl, dx, dy, mf, hn6', hdd, fun H6 sv s6 pv => ?_⟩
      have hso : solve1 (knownAt (eqn0 R F dd) R.length (R.length - 1) 0) 0 (-1) = solR R F dd := rfl
      rw [hso] at pv
      clear hso
      have s06 := s05.trans s6
      have hm6 := hm4.same (s5.trans s6)
      have e6 := s6 _ _ e5
      have dx6 := Gx.dp_same s6 _ _ dx
      have dy6 := Gx.dp_same s6 _ _ dy
      clear dx dy e5 hu5 hm4 hu4
      walk_at "g"
      refine Gx.newL (by show 3 ≤ 16777216; decide) fun w0 H7 E7 => ?_
      have ew := SqL.of (K := K) E7.at_
      have s07 := s06.trans E7.same
      walk_at "g"
      refine ⟨⟨_, ew⟩, for_list (K := K) (a := w0) (xs := [V.bl true, .bl false, .bl true]) (fun i σ H' => ∃ y2 y5 y6 y7 : Option V, Same H7 H' ∧ σ = [some (.ref u), some (.ref pm), y2, some (.ref u2), some sv, y5, y6, y7]) ⟨_, _, _, _, Same.refl H7, rfl⟩ (fun i σ H' _ z => ?_) ?_ ?_⟩
      · obtain ⟨_, _, _, _, s', _⟩ := z
        exact s'.seq ew
      · rintro i wd σ H8 hi ⟨y2, y5, y6, y7, s8, rfl⟩
        obtain ⟨b, rfl⟩ : ∃ b : Bool, wd = .bl b := by
          have := List.mem_of_getElem? hi
          simp only [List.mem_cons, List.not_mem_nil, or_false] at this
          rcases this with h | h | h
          · exact ⟨_, h⟩
          · exact ⟨_, h⟩
          · exact ⟨_, h⟩
        clear hi
        walk_at "g"
        obtain ⟨lim, hlim, hlim2⟩ : ∃ lim : Int, (60 + 39 * if b = true then 1 else 0) = lim ∧ (if b then 99 else 60) = lim := by
          cases b
          · exact ⟨60, rfl, rfl⟩
          · exact ⟨99, rfl, rfl⟩
        rw [hlim]
        clear hlim
        have s08 := s07.trans s8
        have pv8 := pv.same (E7.same.trans s8)
        refine Gx.newT (by show 2 ≤ 16777216; decide) fun w1 H9 E9 => ?_
        have pv9 := pv8.same E9.same
        walk_at "g"
        refine ⟨fun σ H' => Same H7 H' ∧ ∃ v7, Dp K H' v7 (triedD lim (solR R F dd)) ∧ σ = [some (.ref u), some (.ref pm), y2, some (.ref u2), some sv, some (.bl b), some (.int lim), some v7], ?_, ?_⟩
        · walk_at "g"
          cases ho : solR R F dd with
          | none =>
            rw [ho] at pv9
            have pv9 : sv = .non := pv9
            subst pv9
            walk_at "g"
            refine Gx.newT (by show 2 ≤ 16777216; decide) fun w2 HA EA => ?_
            exact ⟨s8.trans (E9.same.trans EA.same), _, .tup (SqT.of EA.at_) (.cons (.str _) (.cons .non .nil)), rfl⟩
          | some G =>
            rw [ho] at pv9
            obtain ⟨ag, wg, rfl, hgs, hgd⟩ := partD_at (show Dp K H9 sv (partD G) from pv9)
            walk_at "g"
            unfold triedD
            dsimp only
            refine Gx.iteD (fun hle => ?_) (fun hle => ?_)
            · rw [if_pos hle]
              walk_at "g"
              refine Gx.newT (by show 2 ≤ 16777216; decide) fun w2 HA EA => ?_
              exact ⟨s8.trans (E9.same.trans EA.same), _, .tup (SqT.of EA.at_) (.cons (.str _) (.cons (Gx.dp_same EA.same _ _ hgd) .nil)), rfl⟩
            · rw [if_neg hle]
              walk_at "g"
              exact ⟨s8.trans E9.same, _, .tup (SqT.of E9.at_) (.cons (.str _) (.cons (.int _) .nil)), rfl⟩
        · rintro σ HB ⟨sB, v7, d7, rfl⟩
          obtain ⟨ok1, ok2⟩ := tried_ok (F := F) (dd := dd) hn6' lim
          walk_at "g"
          refine ⟨pm, R, F, b, dd, rfl, hm6.same (E7.same.trans sB), mf, hn6', hdd, fun HC vC sC dC => ?_⟩
          rw [hlim2] at dC
          walk_at "g"
          refine ⟨vC, v7, _, rfl, dC, Gx.dp_same sC _ _ d7, ok1, ok2, fun HD sD => ?_⟩
          walk_at "g"
          exact ⟨_, _, _, _, sB.trans (sC.trans sD), rfl⟩
      · rintro σ H8 ⟨y2, y5, y6, y7, s8, rfl⟩
        walk_at "g"
        obtain ⟨dxm, mx, my, hpm, mdx, mdy⟩ := id (hm6.same (E7.same.trans s8))
        refine ⟨pm, T.a_Machine, dxm, _, _, rfl, hpm, T.c_Machine, T.n_Machine_rows, lk_rows _ _, ?_⟩
        walk_at "g"
        refine ⟨pm, T.a_Machine, dxm, _, _, rfl, hpm, T.c_Machine, T.n_Machine_finals, lk_finals _ _, ?_⟩
        walk_at "g"
        refine Gx.newL (by show 2 ≤ 16777216; decide) fun l1 HA EA => ?_
        have huA := SqT.of (K := K) (EA.same _ _ (s8 _ _ (E7.same _ _ e6)))
        walk_at "g"
        refine Gx.newL (by show 2 ≤ 16777216; decide) fun l2 HB EB => ?_
        have sAB := EA.same.trans EB.same
        obtain ⟨ok1, ok2⟩ := both_ok mf.five hn6' mf.fl
        refine Gx.anil ?_
        refine ⟨.ref l1, .ref l2, bothD R F, rfl, ?_, ?_, ok1, ok2, fun HC sC => ?_⟩
        · exact .lst (SqL.of (EB.same _ _ EA.at_)) (.cons (Gx.dp_same sAB _ _ mdx) (.cons (Gx.dp_same sAB _ _ mdy) .nil))
        · have s9 := (E7.same.trans s8).trans sAB
          exact .lst (SqL.of EB.at_) (.cons (Gx.dp_same s9 _ _ dx6) (.cons (Gx.dp_same s9 _ _ dy6) .nil))
        · exact q HC (s07.trans (s8.trans (sAB.trans sC)))
end
end K15
namespace K15
open PySem PySem.Spec PyProof.Rows L2
local macro_rules | `(tactic| walk_at "con") => `(tactic| first | with_reducible refine Gx.conE K15.ks0 ?_ | with_reducible refine Gx.conE K15.ks1 ?_ | with_reducible refine Gx.conE K15.ks2 ?_ | with_reducible refine Gx.conE K15.ks3 ?_ | with_reducible refine Gx.conE K15.ks4 ?_ | with_reducible refine Gx.conE K15.ks5 ?_ | with_reducible refine Gx.conE K15.ks6 ?_ | with_reducible refine Gx.conE K15.ks7 ?_ | with_reducible refine Gx.conE K15.ks8 ?_ | with_reducible refine Gx.conE K15.ks9 ?_ | with_reducible refine Gx.conE K15.ks10 ?_ | with_reducible refine Gx.conE K15.ks11 ?_ | with_reducible refine Gx.conE K15.ks12 ?_ | with_reducible refine Gx.conE K15.ks13 ?_ | with_reducible refine Gx.conE K15.ks14 ?_ | with_reducible refine Gx.conE K15.ks15 ?_)
section
variable {P : Program} {w : World} {K : PySem.W.Frag} {mg : Str → Option Value} {base : Heap}
def spLaw (K : PySem.W.Frag) : Sp := fun vs H Q _ => ∃ (a : Addr) (ns : List Int), vs = [.ref a] ∧ SqL K H a (ns.map V.int) ∧ ns.length ≤ 63 ∧ ∀ H', Q (.bl true) H'
theorem ok_law (T : Txt K mg w) : FnOk P w K mg base CX0 64 T.f_law T.fd_law ["script"] (spLaw K) := by
  have G__law_stream := G__law_stream (P := P) (w := w) (base := base) T
  have G__law_drawn := G__law_drawn (P := P) (w := w) (base := base) T
  have G__law_ladder := G__law_ladder (P := P) (w := w) (base := base) T
  have G__law_told := G__law_told (P := P) (w := w) (base := base) T
  refine T.F_law.ok sc_law (fun vs H Q E h => ?_) (fun cdv A outer s H vs Q E hr h => ?_)
  · obtain ⟨a, ns, rfl, _⟩ := h
    rfl
  · obtain ⟨a, ns, rfl, hS, hlen, q⟩ := h
    refine ⟨_, ((pss_cons (ps_set (i := 1) sc_law.nd rfl (Or.inl rfl) (pe_call G__law_stream (hr.mono (by first | decide | omega)) (by rfl) T.g__law_stream T.F__law_stream.kp T.b__law_stream .nil pass0 (pa_cons (pv 0) (pa_cons pe_int pa_nil))))
  (pss_one (ps_ret (pe_and (pe_call G__law_told (hr.mono (by first | decide | omega)) (by rfl) T.g__law_told T.F__law_told.kp T.b__law_told .nil pass0 (pa_cons (pe_call G__law_drawn (hr.mono (by first | decide | omega)) (by rfl) T.g__law_drawn T.F__law_drawn.kp T.b__law_drawn .nil pass0 (pa_cons (pv 1) (pa_cons pe_int pa_nil))) pa_nil)) (pe_and (pe_call G__law_told (hr.mono (by first | decide | omega)) (by rfl) T.g__law_told T.F__law_told.kp T.b__law_told .nil pass0 (pa_cons (pe_call G__law_ladder (hr.mono (by first | decide | omega)) (by rfl) T.g__law_ladder T.F__law_ladder.kp T.b__law_ladder .nil pass0 (pa_cons (pv 1) (pa_cons pe_int pa_nil))) pa_nil)) (pe_one (pe_call G__law_told (hr.mono (by first | decide | omega)) (by rfl) T.g__law_told T.F__law_told.kp T.b__law_told .nil pass0 (pa_cons (pe_call G__law_drawn (hr.mono (by first | decide | omega)) (by rfl) T.g__law_drawn T.F__law_drawn.kp T.b__law_drawn .nil pass0 (pa_cons (pv 1) (pa_cons pe_int pa_nil))) pa_nil))))))))), ?_⟩
    clear G__law_stream G__law_drawn G__law_ladder G__law_told
    rw [st_law]
    try dsimp only [cxOf]
    walk_at "g"
    refine ⟨a, ns, _, rfl, hS, hlen, by omega, by omega, fun H1 p xs s1 np e1 hx dx => ?_⟩
    have hX : SqL K H1 p (xs.map V.int) := SqL.of e1
    walk_at "g"
    refine ⟨p, xs, _, rfl, hX, by omega, by omega, fun H2 u a2 f rows fin s2 e2 hR hF five hn6 hfl => ?_⟩
    walk_at "g"
    refine ⟨u, a2, f, rows, fin, rfl, e2, hR, hF, five, hn6, hfl, fun H3 s3 => ?_⟩
    clear e2 hR hF five hn6 hfl
    walk_at "g"
    refine ⟨p, xs, _, rfl, (s2.trans s3).seq hX, by omega, by omega, fun H4 u4 a4 f4 rows4 fin4 s4 e4 hR hF five hn6 hfl => ?_⟩
    walk_at "g"
    refine ⟨u4, a4, f4, rows4, fin4, rfl, e4, hR, hF, five, hn6, hfl, fun H5 s5 => ?_⟩
    clear e4 hR hF five hn6 hfl
    walk_at "g"
    refine ⟨p, xs, _, rfl, (s2.trans (s3.trans (s4.trans s5))).seq hX, by omega, by omega, fun H6 u6 a6 f6 rows6 fin6 s6 e6 hR hF five hn6 hfl => ?_⟩
    walk_at "g"
    refine ⟨u6, a6, f6, rows6, fin6, rfl, e6, hR, hF, five, hn6, hfl, fun H7 s7 => ?_⟩
    exact q H7
end
end K15
open PySem PySem.W PyProof.Rows
set_option maxHeartbeats 0 in
theorem PySem.Challenge.cw_textsputback_k15_solved_equations_holds : PySem.Challenge.rw_textsputback_k15_solved_equations.Holds := by
  w_on; o_law; k_head; (case hw => w_witness2)
  k_fill
  refine L2.walk_of (l := PySem.Challenge.rw_textsputback_k15_solved_equations) (n := 63) (k := 64) (x := "script") (CX := fun _ => L2.CX0) (sp := fun w => K15.spLaw _) rfl (by decide) rfl ⟨rfl, by decide, by decide⟩ (fun w h Y => PySem.W.kIn_of Y) ?F (fun _ _ a ns hl _ hS => ⟨a, ns, rfl, hS, hl, fun _ => rfl⟩) (fun _ _ _ _ _ h => h)
  case F =>
    intro w mg fa h KX G hmg
    obtain ⟨T, e⟩ : ∃ T : K15.Txt _ mg w, T.f_law = fa := by
      refine' K15.txt_mk KX G ?ga_LensError ?k_LensError ?x_LensError ?bP_LensError ?tP_LensError ?iP_LensError ?ga_TooMany ?k_TooMany ?oc_TooMany ?orf_TooMany ?osa_TooMany ?oxc_TooMany ?otc_TooMany ?oga_TooMany ?ogg_TooMany ?ohd_TooMany ?ocl_TooMany ?omr_TooMany ?on_TooMany ?ga_Machine ?k_Machine ?pg_Machine ?hd_Machine ?po_Machine ?sa_Machine ?mk_Machine ?n_Machine_rows ?n_Machine_finals ?ha_Machine ?hm_Machine ?hn_ ?htk_ ?ga_TooMany_init ?ot_TooMany ?l_TooMany_init ?cc_TooMany_init ?k_TooMany_init ?ga_reached ?l_reached ?cc_reached ?k_reached ?ga_refined ?l_refined ?cc_refined ?k_refined ?ga_classes ?l_classes ?cc_classes ?k_classes ?ga_least ?l_least ?cc_least ?k_least ?ga_Machine_init ?i_Machine_init ?l_Machine_init ?cc_Machine_init ?k_Machine_init ?pa_Machine_states ?pb_Machine_states ?pc_Machine_states ?pd_Machine_states ?l_Machine_states ?cc_Machine_states ?k_Machine_states ?ga_Machine_state_after ?i_Machine_state_after ?l_Machine_state_after ?cc_Machine_state_after ?k_Machine_state_after ?ga_Machine_contains ?i_Machine_contains ?l_Machine_contains ?cc_Machine_contains ?k_Machine_contains ?ga_Machine_eq ?i_Machine_eq ?l_Machine_eq ?cc_Machine_eq ?k_Machine_eq ?ga_dead_state ?l_dead_state ?cc_dead_state ?k_dead_state ?ga_sized ?l_sized ?cc_sized ?k_sized ?ga_in_front ?l_in_front ?cc_in_front ?k_in_front ?ga_added ?l_added ?cc_added ?k_added ?ga_equation ?l_equation ?cc_equation ?k_equation ?ga_solved ?l_solved ?cc_solved ?k_solved ?ga_pattern_of ?l_pattern_of ?cc_pattern_of ?k_pattern_of ?kd_pattern_of_most ?ga__law_mix ?l__law_mix ?cc__law_mix ?k__law_mix ?ga__law_stream ?l__law_stream ?cc__law_stream ?k__law_stream ?ga__law_pick ?l__law_pick ?cc__law_pick ?k__law_pick ?ga__law_kind ?l__law_kind ?cc__law_kind ?k__law_kind ?ga__law_same ?l__law_same ?cc__law_same ?k__law_same ?ga__law_apart ?l__law_apart ?cc__law_apart ?k__law_apart ?ga__law_least ?l__law_least ?cc__law_least ?k__law_least ?ga__law_drawn ?l__law_drawn ?cc__law_drawn ?k__law_drawn ?ga__law_ladder ?l__law_ladder ?cc__law_ladder ?k__law_ladder ?ga__law_live ?l__law_live ?cc__law_live ?k__law_live ?ga__law_equation ?l__law_equation ?cc__law_equation ?k__law_equation ?ga__law_before ?l__law_before ?cc__law_before ?k__law_before ?ga__law_added ?l__law_added ?cc__law_added ?k__law_added ?ga__law_solved ?l__law_solved ?cc__law_solved ?k__law_solved ?ga__law_tried ?l__law_tried ?cc__law_tried ?k__law_tried ?ga__law_told ?l__law_told ?cc__law_told ?k__law_told ?ga_law ?l_law ?cc_law ?k_law ?zz_abs ?zz_bool ?zz_int ?zz_isinstance ?zz_len ?zz_list ?zz_min ?zz_range ?zz_sorted ?zz_str ?zz_sum ?zz_tuple ?zz_zip ?ga_MOST_STATES ?ga_SIGNS ?ga_PLACES ?dw_PLACES ?di_PLACES ?ga_EMPTY ?kpt_EMPTY ?kpw_EMPTY ?kty_EMPTY ?kts_EMPTY ?em_tm hmg
      (case ga_LensError => first | k_is | rfl | decide +kernel)
      (case k_LensError => first | k_is | rfl | decide +kernel)
      (case x_LensError => k_exc)
      (case bP_LensError => first | k_is | rfl | decide +kernel)
      (case tP_LensError => first | k_is | rfl | decide +kernel)
      (case iP_LensError => first | k_is | rfl | decide +kernel)
      (case ga_TooMany => first | k_is | rfl | decide +kernel)
      (case k_TooMany => first | k_is | rfl | decide +kernel)
      (case oc_TooMany => first | k_is | rfl | decide +kernel)
      (case orf_TooMany => first | k_is | rfl | decide +kernel)
      (case osa_TooMany => first | k_is | rfl | decide +kernel)
      (case oxc_TooMany => first | k_is | rfl | decide +kernel)
      (case otc_TooMany => first | k_is | rfl | decide +kernel)
      (case oga_TooMany => first | k_is | rfl | decide +kernel)
      (case ogg_TooMany => first | k_is | rfl | decide +kernel)
      (case ohd_TooMany => first | k_is | rfl | decide +kernel)
      (case ocl_TooMany => first | k_is | rfl | decide +kernel)
      (case omr_TooMany => first | k_is | rfl | decide +kernel)
      (case on_TooMany => first | k_is | rfl | decide +kernel)
      (case ga_Machine => first | k_is | rfl | decide +kernel)
      (case k_Machine => first | k_is | rfl | decide +kernel)
      (case pg_Machine => first | k_is | rfl | decide +kernel)
      (case hd_Machine => first | k_is | rfl | decide +kernel)
      (case po_Machine => first | k_is | rfl | decide +kernel)
      (case sa_Machine => first | k_is | rfl | decide +kernel)
      (case mk_Machine => first | k_is | rfl | decide +kernel)
      (case n_Machine_rows => first | k_is | rfl | decide +kernel)
      (case n_Machine_finals => first | k_is | rfl | decide +kernel)
      (case ha_Machine => first | k_is | rfl | decide +kernel)
      (case hm_Machine => first | k_is | rfl | decide +kernel)
      (case hn_ => first | k_is | rfl | decide +kernel)
      (case htk_ => first | k_is | rfl | decide +kernel)
      (case ga_TooMany_init => first | k_is | rfl | decide +kernel)
      (case l_TooMany_init => first | k_is | rfl | decide +kernel)
      (case cc_TooMany_init => first | k_is | rfl | decide +kernel)
      (case k_TooMany_init => first | k_is | rfl | decide +kernel)
      (case ga_reached => first | k_is | rfl | decide +kernel)
      (case l_reached => first | k_is | rfl | decide +kernel)
      (case cc_reached => first | k_is | rfl | decide +kernel)
      (case k_reached => first | k_is | rfl | decide +kernel)
      (case ga_refined => first | k_is | rfl | decide +kernel)
      (case l_refined => first | k_is | rfl | decide +kernel)
      (case cc_refined => first | k_is | rfl | decide +kernel)
      (case k_refined => first | k_is | rfl | decide +kernel)
      (case ga_classes => first | k_is | rfl | decide +kernel)
      (case l_classes => first | k_is | rfl | decide +kernel)
      (case cc_classes => first | k_is | rfl | decide +kernel)
      (case k_classes => first | k_is | rfl | decide +kernel)
      (case ga_least => first | k_is | rfl | decide +kernel)
      (case l_least => first | k_is | rfl | decide +kernel)
      (case cc_least => first | k_is | rfl | decide +kernel)
      (case k_least => first | k_is | rfl | decide +kernel)
      (case ga_Machine_init => first | k_is | rfl | decide +kernel)
      (case i_Machine_init => first | k_is | rfl | decide +kernel)
      (case l_Machine_init => first | k_is | rfl | decide +kernel)
      (case cc_Machine_init => first | k_is | rfl | decide +kernel)
      (case k_Machine_init => first | k_is | rfl | decide +kernel)
      (case pa_Machine_states => first | k_is | rfl | decide +kernel)
      (case pb_Machine_states => first | k_is | rfl | decide +kernel)
      (case pc_Machine_states => first | k_is | rfl | decide +kernel)
      (case pd_Machine_states => first | k_is | rfl | decide +kernel)
      (case l_Machine_states => first | k_is | rfl | decide +kernel)
      (case cc_Machine_states => first | k_is | rfl | decide +kernel)
      (case k_Machine_states => first | k_is | rfl | decide +kernel)
      (case ga_Machine_state_after => first | k_is | rfl | decide +kernel)
      (case i_Machine_state_after => first | k_is | rfl | decide +kernel)
      (case l_Machine_state_after => first | k_is | rfl | decide +kernel)
      (case cc_Machine_state_after => first | k_is | rfl | decide +kernel)
      (case k_Machine_state_after => first | k_is | rfl | decide +kernel)
      (case ga_Machine_contains => first | k_is | rfl | decide +kernel)
      (case i_Machine_contains => first | k_is | rfl | decide +kernel)
      (case l_Machine_contains => first | k_is | rfl | decide +kernel)
      (case cc_Machine_contains => first | k_is | rfl | decide +kernel)
      (case k_Machine_contains => first | k_is | rfl | decide +kernel)
      (case ga_Machine_eq => first | k_is | rfl | decide +kernel)
      (case i_Machine_eq => first | k_is | rfl | decide +kernel)
      (case l_Machine_eq => first | k_is | rfl | decide +kernel)
      (case cc_Machine_eq => first | k_is | rfl | decide +kernel)
      (case k_Machine_eq => first | k_is | rfl | decide +kernel)
      (case ga_dead_state => first | k_is | rfl | decide +kernel)
      (case l_dead_state => first | k_is | rfl | decide +kernel)
      (case cc_dead_state => first | k_is | rfl | decide +kernel)
      (case k_dead_state => first | k_is | rfl | decide +kernel)
      (case ga_sized => first | k_is | rfl | decide +kernel)
      (case l_sized => first | k_is | rfl | decide +kernel)
      (case cc_sized => first | k_is | rfl | decide +kernel)
      (case k_sized => first | k_is | rfl | decide +kernel)
      (case ga_in_front => first | k_is | rfl | decide +kernel)
      (case l_in_front => first | k_is | rfl | decide +kernel)
      (case cc_in_front => first | k_is | rfl | decide +kernel)
      (case k_in_front => first | k_is | rfl | decide +kernel)
      (case ga_added => first | k_is | rfl | decide +kernel)
      (case l_added => first | k_is | rfl | decide +kernel)
      (case cc_added => first | k_is | rfl | decide +kernel)
      (case k_added => first | k_is | rfl | decide +kernel)
      (case ga_equation => first | k_is | rfl | decide +kernel)
      (case l_equation => first | k_is | rfl | decide +kernel)
      (case cc_equation => first | k_is | rfl | decide +kernel)
      (case k_equation => first | k_is | rfl | decide +kernel)
      (case ga_solved => first | k_is | rfl | decide +kernel)
      (case l_solved => first | k_is | rfl | decide +kernel)
      (case cc_solved => first | k_is | rfl | decide +kernel)
      (case k_solved => first | k_is | rfl | decide +kernel)
      (case ga_pattern_of => first | k_is | rfl | decide +kernel)
      (case l_pattern_of => first | k_is | rfl | decide +kernel)
      (case cc_pattern_of => first | k_is | rfl | decide +kernel)
      (case k_pattern_of => first | k_is | rfl | decide +kernel)
      (case kd_pattern_of_most => first | k_is | rfl | decide +kernel)
      (case ga__law_mix => first | k_is | rfl | decide +kernel)
      (case l__law_mix => first | k_is | rfl | decide +kernel)
      (case cc__law_mix => first | k_is | rfl | decide +kernel)
      (case k__law_mix => first | k_is | rfl | decide +kernel)
      (case ga__law_stream => first | k_is | rfl | decide +kernel)
      (case l__law_stream => first | k_is | rfl | decide +kernel)
      (case cc__law_stream => first | k_is | rfl | decide +kernel)
      (case k__law_stream => first | k_is | rfl | decide +kernel)
      (case ga__law_pick => first | k_is | rfl | decide +kernel)
      (case l__law_pick => first | k_is | rfl | decide +kernel)
      (case cc__law_pick => first | k_is | rfl | decide +kernel)
      (case k__law_pick => first | k_is | rfl | decide +kernel)
      (case ga__law_kind => first | k_is | rfl | decide +kernel)
      (case l__law_kind => first | k_is | rfl | decide +kernel)
      (case cc__law_kind => first | k_is | rfl | decide +kernel)
      (case k__law_kind => first | k_is | rfl | decide +kernel)
      (case ga__law_same => first | k_is | rfl | decide +kernel)
      (case l__law_same => first | k_is | rfl | decide +kernel)
      (case cc__law_same => first | k_is | rfl | decide +kernel)
      (case k__law_same => first | k_is | rfl | decide +kernel)
      (case ga__law_apart => first | k_is | rfl | decide +kernel)
      (case l__law_apart => first | k_is | rfl | decide +kernel)
      (case cc__law_apart => first | k_is | rfl | decide +kernel)
      (case k__law_apart => first | k_is | rfl | decide +kernel)
      (case ga__law_least => first | k_is | rfl | decide +kernel)
      (case l__law_least => first | k_is | rfl | decide +kernel)
      (case cc__law_least => first | k_is | rfl | decide +kernel)
      (case k__law_least => first | k_is | rfl | decide +kernel)
      (case ga__law_drawn => first | k_is | rfl | decide +kernel)
      (case l__law_drawn => first | k_is | rfl | decide +kernel)
      (case cc__law_drawn => first | k_is | rfl | decide +kernel)
      (case k__law_drawn => first | k_is | rfl | decide +kernel)
      (case ga__law_ladder => first | k_is | rfl | decide +kernel)
      (case l__law_ladder => first | k_is | rfl | decide +kernel)
      (case cc__law_ladder => first | k_is | rfl | decide +kernel)
      (case k__law_ladder => first | k_is | rfl | decide +kernel)
      (case ga__law_live => first | k_is | rfl | decide +kernel)
      (case l__law_live => first | k_is | rfl | decide +kernel)
      (case cc__law_live => first | k_is | rfl | decide +kernel)
      (case k__law_live => first | k_is | rfl | decide +kernel)
      (case ga__law_equation => first | k_is | rfl | decide +kernel)
      (case l__law_equation => first | k_is | rfl | decide +kernel)
      (case cc__law_equation => first | k_is | rfl | decide +kernel)
      (case k__law_equation => first | k_is | rfl | decide +kernel)
      (case ga__law_before => first | k_is | rfl | decide +kernel)
      (case l__law_before => first | k_is | rfl | decide +kernel)
      (case cc__law_before => first | k_is | rfl | decide +kernel)
      (case k__law_before => first | k_is | rfl | decide +kernel)
      (case ga__law_added => first | k_is | rfl | decide +kernel)
      (case l__law_added => first | k_is | rfl | decide +kernel)
      (case cc__law_added => first | k_is | rfl | decide +kernel)
      (case k__law_added => first | k_is | rfl | decide +kernel)
      (case ga__law_solved => first | k_is | rfl | decide +kernel)
      (case l__law_solved => first | k_is | rfl | decide +kernel)
      (case cc__law_solved => first | k_is | rfl | decide +kernel)
      (case k__law_solved => first | k_is | rfl | decide +kernel)
      (case ga__law_tried => first | k_is | rfl | decide +kernel)
      (case l__law_tried => first | k_is | rfl | decide +kernel)
      (case cc__law_tried => first | k_is | rfl | decide +kernel)
      (case k__law_tried => first | k_is | rfl | decide +kernel)
      (case ga__law_told => first | k_is | rfl | decide +kernel)
      (case l__law_told => first | k_is | rfl | decide +kernel)
      (case cc__law_told => first | k_is | rfl | decide +kernel)
      (case k__law_told => first | k_is | rfl | decide +kernel)
      (case ga_law => first | k_is | rfl | decide +kernel)
      (case l_law => first | k_is | rfl | decide +kernel)
      (case cc_law => first | k_is | rfl | decide +kernel)
      (case k_law => first | k_is | rfl | decide +kernel)
      (case zz_abs => first | k_is | rfl | decide +kernel)
      (case zz_bool => first | k_is | rfl | decide +kernel)
      (case zz_int => first | k_is | rfl | decide +kernel)
      (case zz_isinstance => first | k_is | rfl | decide +kernel)
      (case zz_len => first | k_is | rfl | decide +kernel)
      (case zz_list => first | k_is | rfl | decide +kernel)
      (case zz_min => first | k_is | rfl | decide +kernel)
      (case zz_range => first | k_is | rfl | decide +kernel)
      (case zz_sorted => first | k_is | rfl | decide +kernel)
      (case zz_str => first | k_is | rfl | decide +kernel)
      (case zz_sum => first | k_is | rfl | decide +kernel)
      (case zz_tuple => first | k_is | rfl | decide +kernel)
      (case zz_zip => first | k_is | rfl | decide +kernel)
      (case ga_MOST_STATES => first | k_is | rfl | decide +kernel)
      (case ga_SIGNS => first | k_is | rfl | decide +kernel)
      (case ga_PLACES => first | k_is | rfl | decide +kernel)
      (case dw_PLACES => first | k_is | rfl | decide +kernel)
      (case di_PLACES => first | k_is | rfl | decide +kernel)
      (case ga_EMPTY => first | k_is | rfl | decide +kernel)
      (case kpt_EMPTY => first | k_is | rfl | decide +kernel)
      (case kpw_EMPTY => first | k_is | rfl | decide +kernel)
      (case kty_EMPTY => first | k_is | rfl | decide +kernel)
      (case kts_EMPTY => first | k_is | rfl | decide +kernel)
      (case em_tm => first | k_is | rfl | decide +kernel)
      (case ot_TooMany => first | k_is | rfl | decide +kernel)
    subst e
    exact ⟨T.fd_law, T.bt_law, fun base _ _ => K15.ok_law T⟩
